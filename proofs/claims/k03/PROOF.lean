import PyProof.Rows.All
import Wide.All
import OpenK.AllK
import Wide.FinOn
import HandS.ForMost
import HandS.Exc
import HandS.TryOnly
import HandS.ExcOwn
import HandS.WordsExc
import KE.KDictKeyed
import KE.KDictPairs
import HandS.IsInst
import HandS.Wide
import HandS.TupAny
import HandS.Deep
import HandS.SortInts
import HandS.Iter
import KE.GoesEnum
import KE.GoesMore
import HandS.Strs
import HandS.Conv
import HandS.Dict
import HandS.NoneIn
import KE.SortData
import KE.SortLaws
import KE.KDictItemsList
import HandS.TupSets
import PyProof.ReprReads
import PyProof.ReprBulk
import PyProof.CallFns
import PyProof.ZipIter
import HandS.Zip
import KE.KDictZip
import HandS.Star
import PySem.Challenge.RW_tablegroups_k03_whole_lines_and_what_is
set_option Elab.async false
set_option linter.all false
set_option maxRecDepth 100000
/-! ## The pure layer: data without a heap, and rules over it -/
namespace PL
open PySem PySem.Spec PyProof.Rows L2

/-- data without a heap -/
inductive D where
  | non | bl (b : Bool) | int (i : Int) | str (s : Str) | ty (n : String)
  | tup (xs : List D) | lst (xs : List D) | dct (ks vs : List D) | tdc (ks vs : List D) | obj (c : Str) (ns : List Str) (vs : List D) | glo (n : Str) | hand
  deriving Inhabited

/-- what runs beside: its own addresses, what holds there -/
structure Am where
  fp : Addr → Prop
  inv : Hp → Prop
  hd : Addr
  hash : NestedKey → Int
  self : Addr
  stab : ∀ H H' : Hp, (∀ a, fp a → H' a = H a) → inv H → inv H'
  tr : ∀ (H : Hp) (a : Addr), inv H → fp a → H a ≠ none

/-- the object at a is o, for ever -/
def DX (a : Addr) (o : Obj) : HO := .ext fun h => h.get? a = some o
mutual
/-- a datum as a nested key -/
def nkey : D → Option NestedKey
  | .non => some .none
  | .bl b => some (.num (if b then 1 else 0))
  | .int i => some (.num i)
  | .str s => some (.text s)
  | .tup ds => (nkeyL ds).map .tup
  | _ => none
def nkeyL : List D → Option (List NestedKey)
  | [] => some []
  | d :: ds => (nkey d).bind fun k => (nkeyL ds).map (k :: ·)
end
/-- o is a dict with these entries -/
def TabO (hash : NestedKey → Int) (o : Obj) (es : List (NestedKey × Addr × Value)) : Prop :=
  o.ExactDict ∧ ∃ arr ep, o.data = .dict arr ep ∧ arr.toList = es.map (fun x => { hash := hash x.1, key := .ref x.2.1, val := x.2.2 }) ∧ (es.map (·.1)).Nodup ∧ ∀ x ∈ es, x.1.depth ≤ 8

/-- a tuple's object -/
def TupO (o : Obj) : Prop := ∃ arr, o = { cls := .type "tuple", data := .seq arr }
section rep
variable (K : PySem.W.Frag) (mg : Str → Option Value) (M : Am) (F : Hp)
mutual
/-- the value v is the datum d, read in the frozen heap F -/
def Rep : D → V → Prop
  | .non, v => v = .non
  | .bl b, v => v = .bl b
  | .int i, v => v = .int i
  | .str s, v => v = .str s
  | .ty n, v => v = .ty n
  | .tup ds, v => ∃ a o vs, v = .ref a ∧ F a = some (.frz o (.tup vs)) ∧ TupO o ∧ RepL ds vs
  | .lst ds, v => ∃ a vs, v = .ref a ∧ F a = some (.lst vs) ∧ RepL ds vs
  | .dct ks xs, v => ∃ a kvs, v = .ref a ∧ Rd F a (.dK kvs) ∧ RepL ks (kvs.map fun p => kV p.1) ∧ RepL xs (kvs.map (·.2))
  | .tdc ks xs, v => K = K ∧ ∃ a o es vs, v = .ref a ∧ (a == sysModules) = false ∧ F a = some (DX a o) ∧ TabO M.hash o es ∧ es.length ≤ sizeLine ∧ nkeyL ks = some (es.map (·.1)) ∧ RepL ks (es.map fun e => .ref e.2.1) ∧ RepL xs vs ∧ Vals vs (es.map (·.2.2))
  | .obj c ns ds, v => ∃ a C dx fs, v = .ref a ∧ mg c = some (.ref C) ∧ F a = some (.ins C dx fs) ∧ fs.map (·.1) = ns ∧ RepL ds (fs.map (·.2))
  | .glo n, v => ∃ a, v = .ref a ∧ mg n = some (.ref a)
  | .hand, v => v = .ref M.hd
def RepL : List D → List V → Prop
  | [], vs => vs = []
  | d :: ds, vs => ∃ x xs, vs = x :: xs ∧ Rep d x ∧ RepL ds xs
end
end rep
def Sub (F F' : Hp) : Prop := ∀ a o, F a = some o → F' a = some o
theorem Sub.refl (F : Hp) : Sub F F := fun _ _ h => h
theorem Sub.trans {F F' F'' : Hp} (a : Sub F F') (b : Sub F' F'') : Sub F F'' := fun c o h => b c o (a c o h)
theorem Sub.rd {F F' : Hp} (s : Sub F F') {a : Addr} {u : HO} (h : Rd F a u) : Rd F' a u := by
  rcases h with h | ⟨o, h⟩
  · exact .inl (s _ _ h)
  · exact .inr ⟨o, s _ _ h⟩
theorem Sub.seqL {K : PySem.W.Frag} {F F' : Hp} (s : Sub F F') {a : Addr} {xs : List V} (h : SqL K F a xs) : SqL K F' a xs := by
  rcases h with h | h
  · exact .inl (s.rd h)
  · exact .inr h
theorem Sub.seqT {K : PySem.W.Frag} {F F' : Hp} (s : Sub F F') {a : Addr} {xs : List V} (h : SqT K F a xs) : SqT K F' a xs := by
  rcases h with h | h
  · exact .inl (s.rd h)
  · exact .inr h
section
variable {K : PySem.W.Frag} {mg : Str → Option Value} {M : Am} {F F' : Hp}
mutual
theorem Rep.mono (s : Sub F F') : ∀ (d : D) {v : V}, Rep K mg M F d v → Rep K mg M F' d v
  | .non, _, h => h
  | .bl _, _, h => h
  | .int _, _, h => h
  | .str _, _, h => h
  | .ty _, _, h => h
  | .tup ds, _, h => by
    obtain ⟨a, o, vs, e, q, t, r⟩ := h
    exact ⟨a, o, vs, e, s _ _ q, t, RepL.mono s ds r⟩
  | .lst ds, _, h => by
    obtain ⟨a, vs, e, q, r⟩ := h
    exact ⟨a, vs, e, s _ _ q, RepL.mono s ds r⟩
  | .dct ks xs, _, h => by
    obtain ⟨a, kvs, e, q, r1, r2⟩ := h
    exact ⟨a, kvs, e, s.rd q, RepL.mono s ks r1, RepL.mono s xs r2⟩
  | .tdc ks xs, _, h => by
    obtain ⟨_, a, o, es, vs, e, z, q, t, l, n, r1, r2, w⟩ := h
    exact ⟨rfl, a, o, es, vs, e, z, s _ _ q, t, l, n, RepL.mono s ks r1, RepL.mono s xs r2, w⟩
  | .obj c ns ds, _, h => by
    obtain ⟨a, C, dx, fs, e, m, q, r1, r2⟩ := h
    exact ⟨a, C, dx, fs, e, m, s _ _ q, r1, RepL.mono s ds r2⟩
  | .glo _, _, h => h
  | .hand, _, h => h
theorem RepL.mono (s : Sub F F') : ∀ (ds : List D) {vs : List V}, RepL K mg M F ds vs → RepL K mg M F' ds vs
  | [], _, h => h
  | d :: ds, _, h => by
    obtain ⟨x, xs, e, r, q⟩ := h
    exact ⟨x, xs, e, Rep.mono s d r, RepL.mono s ds q⟩
end
theorem RepL.length : ∀ {ds : List D} {vs : List V}, RepL K mg M F ds vs → vs.length = ds.length
  | [], _, h => by rw [show _ = [] from h]; rfl
  | d :: ds, _, h => by
    obtain ⟨x, xs, rfl, _, q⟩ := h
    simp only [List.length_cons, RepL.length q]
theorem RepL.cons {d : D} {ds : List D} {v : V} {vs : List V} (h : Rep K mg M F d v) (q : RepL K mg M F ds vs) : RepL K mg M F (d :: ds) (v :: vs) := ⟨v, vs, rfl, h, q⟩
theorem RepL.append : ∀ {ds es : List D} {vs us : List V}, RepL K mg M F ds vs → RepL K mg M F es us → RepL K mg M F (ds ++ es) (vs ++ us)
  | [], _, _, _, h, q => by rw [show _ = [] from h]; exact q
  | d :: ds, _, _, _, h, q => by
    obtain ⟨x, xs, rfl, r, t⟩ := h
    exact ⟨x, xs ++ _, rfl, r, RepL.append t q⟩
theorem RepL.snoc {ds : List D} {d : D} {vs : List V} {v : V} (h : RepL K mg M F ds vs) (q : Rep K mg M F d v) : RepL K mg M F (ds ++ [d]) (vs ++ [v]) := h.append (.cons q rfl)
theorem RepL.get : ∀ {ds : List D} {vs : List V} {i : Nat} {d : D}, RepL K mg M F ds vs → ds[i]? = some d → ∃ v, vs[i]? = some v ∧ Rep K mg M F d v
  | [], _, _, _, _, e => by simp at e
  | d :: ds, _, 0, _, h, e => by
    obtain ⟨x, xs, rfl, r, t⟩ := h
    simp at e; subst e; exact ⟨x, rfl, r⟩
  | d :: ds, _, i + 1, _, h, e => by
    obtain ⟨x, xs, rfl, r, t⟩ := h
    obtain ⟨v, h1, h2⟩ := RepL.get (i := i) t (by simpa using e)
    exact ⟨v, by simpa using h1, h2⟩
theorem RepL.take : ∀ {ds : List D} {vs : List V} (n : Nat), RepL K mg M F ds vs → RepL K mg M F (ds.take n) (vs.take n)
  | [], _, n, h => by rw [show _ = [] from h]; simp [RepL]
  | d :: ds, _, 0, h => by simp [RepL]
  | d :: ds, _, n + 1, h => by
    obtain ⟨x, xs, rfl, r, t⟩ := h
    exact ⟨x, xs.take n, rfl, r, RepL.take n t⟩
theorem RepL.drop : ∀ {ds : List D} {vs : List V} (n : Nat), RepL K mg M F ds vs → RepL K mg M F (ds.drop n) (vs.drop n)
  | [], _, n, h => by rw [show _ = [] from h]; simp [RepL]
  | d :: ds, _, 0, h => h
  | d :: ds, _, n + 1, h => by
    obtain ⟨x, xs, rfl, r, t⟩ := h
    exact RepL.drop n t
theorem RepL.set : ∀ {ds : List D} {vs : List V} (i : Nat) {d : D} {v : V}, RepL K mg M F ds vs → Rep K mg M F d v → RepL K mg M F (ds.set i d) (vs.set i v)
  | [], _, n, _, _, h, _ => by rw [show _ = [] from h]; simp [RepL]
  | d :: ds, _, 0, _, _, h, q => by
    obtain ⟨x, xs, rfl, r, t⟩ := h
    exact ⟨_, _, rfl, q, t⟩
  | d :: ds, _, n + 1, _, _, h, q => by
    obtain ⟨x, xs, rfl, r, t⟩ := h
    exact ⟨x, xs.set n _, rfl, r, RepL.set n t q⟩
theorem RepL.reverse : ∀ {ds : List D} {vs : List V}, RepL K mg M F ds vs → RepL K mg M F ds.reverse vs.reverse
  | [], _, h => by rw [show _ = [] from h]; simp [RepL]
  | d :: ds, _, h => by
    obtain ⟨x, xs, rfl, r, t⟩ := h
    rw [List.reverse_cons, List.reverse_cons]
    exact (RepL.reverse t).snoc r
theorem RepL.two {a b : D} {vs : List V} (h : RepL K mg M F [a, b] vs) : ∃ x y, vs = [x, y] ∧ Rep K mg M F a x ∧ Rep K mg M F b y := by
  obtain ⟨x, xs, rfl, r, y, ys, rfl, r', e⟩ := h
  rw [show ys = [] from e]
  exact ⟨x, y, rfl, r, r'⟩
theorem RepL.one {a : D} {vs : List V} (h : RepL K mg M F [a] vs) : ∃ x, vs = [x] ∧ Rep K mg M F a x := by
  obtain ⟨x, xs, rfl, r, e⟩ := h
  rw [show xs = [] from e]
  exact ⟨x, rfl, r⟩
theorem RepL.three {a b c : D} {vs : List V} (h : RepL K mg M F [a, b, c] vs) : ∃ x y z, vs = [x, y, z] ∧ Rep K mg M F a x ∧ Rep K mg M F b y ∧ Rep K mg M F c z := by
  obtain ⟨x, xs, rfl, r, q⟩ := h
  obtain ⟨y, z, rfl, r1, r2⟩ := q.two
  exact ⟨x, y, z, rfl, r, r1, r2⟩
end

theorem rep_tup {K : PySem.W.Frag} {mg : Str → Option Value} {M : Am} {F : Hp} {ds : List D} {v : V} (r : Rep K mg M F (.tup ds) v) : ∃ a vs, v = .ref a ∧ SqT K F a vs ∧ RepL K mg M F ds vs := by
  obtain ⟨a, o, vs, e, q, t, r⟩ := r
  exact ⟨a, vs, e, .inl (.inr ⟨o, q⟩), r⟩
/-- the frozen heap and the heap have grown -/
structure Gr (M : Am) (F H F' H' : Hp) : Prop where
  ext : ∀ a o, ¬ M.fp a → H a = some o → H' a = some o
  sub : Sub F F'
  inn : Sub F' H'
  off : ∀ a o, F' a = some o → ¬ M.fp a
  new : ∀ a o, F' a = some o → F a = some o ∨ H a = none
  inv : M.inv H'
section
variable {M : Am} {F H F' H' F'' H'' : Hp}
theorem Gr.nofp (_ : M.inv H) {a : Addr} (h : H a = none) : ¬ M.fp a := fun q => M.tr H a ‹_› q h
theorem Gr.free (g : Gr M F H F' H') (i : M.inv H') {a : Addr} (h : H' a = none) : H a = none := by
  cases e : H a with
  | none => rfl
  | some o =>
    have := g.ext a o (fun q => M.tr H' a i q h) e
    rw [h] at this; cases this
theorem Gr.trans (g : Gr M F H F' H') (k : Gr M F' H' F'' H'') : Gr M F H F'' H'' where
  ext := fun a o n e => k.ext a o n (g.ext a o n e)
  sub := g.sub.trans k.sub
  inn := k.inn
  off := k.off
  new := fun a o e => by
    rcases k.new a o e with q | q
    · exact g.new a o q
    · exact .inr (g.free g.inv q)
  inv := k.inv
/-- a new object, frozen at once -/
theorem Gr.laid (g : Gr M F H F' H') {p : Addr} (o : HO) (np : H' p = none) : Gr M F H (upd F' p o) (upd H' p o) := by
  have nf : ¬ M.fp p := fun q => M.tr H' p g.inv q np
  have nF : F' p = none := by
    cases e : F' p with
    | none => rfl
    | some u => rw [g.inn p u e] at np; cases np
  refine ⟨fun a u n e => ?_, fun a u e => ?_, fun a u e => ?_, fun a u e => ?_, fun a u e => ?_, ?_⟩
  · rw [upd_ne (ne_of_none (g.ext a u n e) np)]; exact g.ext a u n e
  · rw [upd_ne (ne_of_none (g.sub a u e) nF)]; exact g.sub a u e
  · by_cases h : a = p
    · subst h; rw [upd_same] at e ⊢; exact e
    · rw [upd_ne h] at e ⊢; exact g.inn a u e
  · by_cases h : a = p
    · subst h; exact nf
    · rw [upd_ne h] at e; exact g.off a u e
  · by_cases h : a = p
    · subst h; exact .inr (g.free g.inv np)
    · rw [upd_ne h] at e; exact g.new a u e
  · exact M.stab H' _ (fun a q => upd_ne fun e => nf (e ▸ q)) g.inv
/-- a new object, not frozen -/
theorem Gr.laidH (g : Gr M F H F' H') {p : Addr} (o : HO) (np : H' p = none) : Gr M F H F' (upd H' p o) := by
  have nf : ¬ M.fp p := fun q => M.tr H' p g.inv q np
  refine ⟨fun a u n e => ?_, g.sub, fun a u e => ?_, g.off, g.new, M.stab H' _ (fun a q => upd_ne fun e => nf (e ▸ q)) g.inv⟩
  · rw [upd_ne (ne_of_none (g.ext a u n e) np)]; exact g.ext a u n e
  · rw [upd_ne (ne_of_none (g.inn a u e) np)]; exact g.inn a u e
theorem Gr.noF (g : Gr M F H F' H') {p : Addr} (np : H' p = none) : F' p = none := by
  cases e : F' p with
  | none => rfl
  | some u => rw [g.inn p u e] at np; cases np
/-- an object that was new is frozen as it stands -/
theorem Gr.freeze (g : Gr M F H F' H') {p : Addr} {o : HO} (h : H' p = some o) (n : H p = none) (nf : ¬ M.fp p) (nF : F' p = none) : Gr M F H (upd F' p o) H' := by
  refine ⟨g.ext, fun a u e => ?_, fun a u e => ?_, fun a u e => ?_, fun a u e => ?_, g.inv⟩
  · rw [upd_ne (ne_of_none (g.sub a u e) nF)]; exact g.sub a u e
  · by_cases q : a = p
    · subst q; rw [upd_same] at e; cases e; exact h
    · rw [upd_ne q] at e; exact g.inn a u e
  · by_cases q : a = p
    · subst q; exact nf
    · rw [upd_ne q] at e; exact g.off a u e
  · by_cases q : a = p
    · subst q; exact .inr n
    · rw [upd_ne q] at e; exact g.new a u e
/-- an own object is changed -/
theorem Gr.write (g : Gr M F H F' H') {p : Addr} {o : HO} (n : H p = none) (nf : ¬ M.fp p) (nF : F' p = none) : Gr M F H F' (upd H' p o) := by
  refine ⟨fun a u z e => ?_, g.sub, fun a u e => ?_, g.off, g.new, M.stab H' _ (fun a q => upd_ne fun e => nf (e ▸ q)) g.inv⟩
  · rw [upd_ne (ne_of_none e n)]; exact g.ext a u z e
  · rw [upd_ne (ne_of_none e nF)]; exact g.inn a u e
end

/-- an operand: a datum; a list or a dict may be one's own -/
def ARep (K : PySem.W.Frag) (mg : Str → Option Value) (M : Am) (F H : Hp) : D → V → Prop
  | .lst ds, v => ∃ a vs, v = .ref a ∧ ¬ M.fp a ∧ H a = some (.lst vs) ∧ RepL K mg M F ds vs
  | .dct ks xs, v => ∃ a kvs, v = .ref a ∧ ¬ M.fp a ∧ Rd H a (.dK kvs) ∧ RepL K mg M F ks (kvs.map fun p => kV p.1) ∧ RepL K mg M F xs (kvs.map (·.2))
  | .obj c ns ds, v => ∃ a C dx fs, v = .ref a ∧ ¬ M.fp a ∧ mg c = some (.ref C) ∧ H a = some (.ins C dx fs) ∧ fs.map (·.1) = ns ∧ RepL K mg M F ds (fs.map (·.2))
  | d, v => Rep K mg M F d v
theorem Rep.arep {K : PySem.W.Frag} {mg : Str → Option Value} {M : Am} {F H : Hp} (s : Sub F H) (f : ∀ a o, F a = some o → ¬ M.fp a) {d : D} {v : V} (h : Rep K mg M F d v) : ARep K mg M F H d v := by
  cases d <;> first
    | exact h
    | skip
  case lst ds =>
    obtain ⟨a, vs, e, q, r⟩ := h
    exact ⟨a, vs, e, f _ _ q, s _ _ q, r⟩
  case dct ks xs =>
    obtain ⟨a, kvs, e, q, r, r'⟩ := h
    refine ⟨a, kvs, e, ?_, s.rd q, r, r'⟩
    rcases q with q | ⟨o, q⟩
    · exact f _ _ q
    · exact f _ _ q
  case obj c ns ds =>
    obtain ⟨a, C, dx, fs, e, m, q, r, r'⟩ := h
    exact ⟨a, C, dx, fs, e, f _ _ q, m, s _ _ q, r, r'⟩
theorem ARep.grow {K : PySem.W.Frag} {mg : Str → Option Value} {M : Am} {F H F' H' : Hp} (g : Gr M F H F' H') {d : D} {v : V} (h : ARep K mg M F H d v) : ARep K mg M F' H' d v := by
  cases d <;> first
    | exact Rep.mono g.sub _ h
    | skip
  case lst ds =>
    obtain ⟨a, vs, e, f, q, r⟩ := h
    exact ⟨a, vs, e, f, g.ext _ _ f q, RepL.mono g.sub _ r⟩
  case dct ks xs =>
    obtain ⟨a, kvs, e, f, q, r, r'⟩ := h
    refine ⟨a, kvs, e, f, ?_, RepL.mono g.sub _ r, RepL.mono g.sub _ r'⟩
    rcases q with q | ⟨o, q⟩
    · exact .inl (g.ext _ _ f q)
    · exact .inr ⟨o, g.ext _ _ f q⟩
  case obj c ns ds =>
    obtain ⟨a, C, dx, fs, e, f, m, q, r, r'⟩ := h
    exact ⟨a, C, dx, fs, e, f, m, g.ext _ _ f q, r, RepL.mono g.sub _ r'⟩
def ARepL (K : PySem.W.Frag) (mg : Str → Option Value) (M : Am) (F H : Hp) : List D → List V → Prop
  | [], vs => vs = []
  | d :: ds, vs => ∃ x xs, vs = x :: xs ∧ ARep K mg M F H d x ∧ ARepL K mg M F H ds xs
theorem ARepL.length {K : PySem.W.Frag} {mg : Str → Option Value} {M : Am} {F H : Hp} : ∀ {ds : List D} {vs : List V}, ARepL K mg M F H ds vs → vs.length = ds.length
  | [], _, h => by rw [show _ = [] from h]; rfl
  | d :: ds, _, h => by
    obtain ⟨x, xs, rfl, _, q⟩ := h
    simp only [List.length_cons, ARepL.length q]
theorem ARepL.grow {K : PySem.W.Frag} {mg : Str → Option Value} {M : Am} {F H F' H' : Hp} (g : Gr M F H F' H') : ∀ {ds : List D} {vs : List V}, ARepL K mg M F H ds vs → ARepL K mg M F' H' ds vs
  | [], _, h => h
  | d :: ds, _, h => by
    obtain ⟨x, xs, e, r, q⟩ := h
    exact ⟨x, xs, e, r.grow g, ARepL.grow g q⟩
theorem ARepL.cons {K : PySem.W.Frag} {mg : Str → Option Value} {M : Am} {F H : Hp} {d : D} {ds : List D} {v : V} {vs : List V} (h : ARep K mg M F H d v) (q : ARepL K mg M F H ds vs) : ARepL K mg M F H (d :: ds) (v :: vs) := ⟨v, vs, rfl, h, q⟩
theorem ARepL.one {K : PySem.W.Frag} {mg : Str → Option Value} {M : Am} {F H : Hp} {a : D} {vs : List V} (h : ARepL K mg M F H [a] vs) : ∃ x, vs = [x] ∧ ARep K mg M F H a x := by
  obtain ⟨x, xs, rfl, r, e⟩ := h
  rw [show xs = [] from e]
  exact ⟨x, rfl, r⟩
theorem ARepL.two {K : PySem.W.Frag} {mg : Str → Option Value} {M : Am} {F H : Hp} {a b : D} {vs : List V} (h : ARepL K mg M F H [a, b] vs) : ∃ x y, vs = [x, y] ∧ ARep K mg M F H a x ∧ ARep K mg M F H b y := by
  obtain ⟨x, xs, rfl, r, q⟩ := h
  obtain ⟨y, rfl, r'⟩ := q.one
  exact ⟨x, y, rfl, r, r'⟩
theorem RepL.arepL {K : PySem.W.Frag} {mg : Str → Option Value} {M : Am} {F H : Hp} (s : Sub F H) (f : ∀ a o, F a = some o → ¬ M.fp a) : ∀ {ds : List D} {vs : List V}, RepL K mg M F ds vs → ARepL K mg M F H ds vs
  | [], _, h => h
  | d :: ds, _, h => by
    obtain ⟨x, xs, e, r, q⟩ := h
    exact ⟨x, xs, e, r.arep s f, RepL.arepL s f q⟩

/-- a slot: a datum, or a thing of the def's own that it may still change -/
inductive C where
  | val (d : D) | own (d : D)
abbrev DEnv := List (Option C)
/-- an exception: the name of its class, its field -/
structure EX where
  cls : Str
  fld : Option (Str × D)

/-- a thing of one's own at v, read in the heap H -/
def ORep (K : PySem.W.Frag) (mg : Str → Option Value) (M : Am) (F H : Hp) : D → V → Prop
  | .lst ds, v => ∃ a vs, v = .ref a ∧ H a = some (.lst vs) ∧ RepL K mg M F ds vs
  | .dct ks xs, v => ∃ a kvs, v = .ref a ∧ H a = some (.dK kvs) ∧ RepL K mg M F ks (kvs.map fun p => kV p.1) ∧ RepL K mg M F xs (kvs.map (·.2))
  | .obj c ns ds, v => ∃ a C dx fs, v = .ref a ∧ a = M.self ∧ mg c = some (.ref C) ∧ H a = some (.ins C dx fs) ∧ fs.map (·.1) = ns ∧ RepL K mg M F ds (fs.map (·.2))
  | _, _ => False
def CRep (K : PySem.W.Frag) (mg : Str → Option Value) (M : Am) (F H : Hp) : C → V → Prop
  | .val d, v => Rep K mg M F d v
  | .own d, v => ORep K mg M F H d v
theorem ORep.addr {K : PySem.W.Frag} {mg : Str → Option Value} {M : Am} {F H : Hp} {d : D} {v : V} (h : ORep K mg M F H d v) : ∃ a o, v = .ref a ∧ H a = some o ∧ Mut (some o) := by
  cases d <;> first
    | exact h.elim
    | (obtain ⟨a, vs, e, q, _⟩ := h; exact ⟨a, _, e, q, trivial⟩)
    | (obtain ⟨a, C, dx, fs, e, _, m, q, _⟩ := h; exact ⟨a, _, e, q, trivial⟩)
theorem ORep.mono {K : PySem.W.Frag} {mg : Str → Option Value} {M : Am} {F H F' H' : Hp} {d : D} {a : Addr} (h : ORep K mg M F H d (.ref a)) (s : Sub F F') (k : H' a = H a) : ORep K mg M F' H' d (.ref a) := by
  cases d <;> first
    | exact h.elim
    | skip
  case lst ds =>
    obtain ⟨b, vs, e, q, r⟩ := h
    cases e
    exact ⟨a, vs, rfl, k.trans q, RepL.mono s _ r⟩
  case dct ks xs =>
    obtain ⟨b, vs, e, q, r, r'⟩ := h
    cases e
    exact ⟨a, vs, rfl, k.trans q, RepL.mono s _ r, RepL.mono s _ r'⟩
  case obj c ns ds =>
    obtain ⟨b, C, dx, fs, e, z, m, q, r, r'⟩ := h
    cases e
    exact ⟨a, C, dx, fs, rfl, z, m, k.trans q, r, RepL.mono s _ r'⟩

/-- the slots σ are the environment ρ; H0: the heap at the def's entry -/
structure EOk (K : PySem.W.Frag) (mg : Str → Option Value) (M : Am) (H0 F H : Hp) (σ : L2.St) (ρ : DEnv) : Prop where
  inn : Sub F H
  off : ∀ a o, F a = some o → ¬ M.fp a
  inv : M.inv H
  len : ρ.length = σ.length
  slot : ∀ (i : Nat) c, ρ[i]? = some (some c) → ∃ v, σ[i]? = some (some v) ∧ CRep K mg M F H c v
  own : ∀ (i : Nat) d a, ρ[i]? = some (some (.own d)) → σ[i]? = some (some (.ref a)) → F a = none ∧ ¬ M.fp a ∧ H0 a = none
  dis : ∀ (i j : Nat) d e a, ρ[i]? = some (some (.own d)) → ρ[j]? = some (some (.own e)) → σ[i]? = some (some (.ref a)) → σ[j]? = some (some (.ref a)) → i = j
section
variable {K : PySem.W.Frag} {mg : Str → Option Value} {M : Am} {H0 F H F' H' : Hp} {σ : L2.St} {ρ : DEnv}
theorem EOk.refl (k : EOk K mg M H0 F H σ ρ) : Gr M F H F H := ⟨fun _ _ _ e => e, .refl F, k.inn, k.off, fun _ _ e => .inl e, k.inv⟩
theorem EOk.grow (k : EOk K mg M H0 F H σ ρ) (g : Gr M F H F' H') : EOk K mg M H0 F' H' σ ρ where
  inn := g.inn
  off := g.off
  inv := g.inv
  len := k.len
  slot := fun i c e => by
    obtain ⟨v, e1, r⟩ := k.slot i c e
    refine ⟨v, e1, ?_⟩
    cases c with
    | val d => exact Rep.mono g.sub d r
    | own d =>
      obtain ⟨a, o, rfl, q, _⟩ := ORep.addr r
      obtain ⟨nF, nf, _⟩ := k.own i d a e e1
      exact ORep.mono r g.sub ((g.ext a o nf q).trans q.symm)
  own := fun i d a e e1 => by
    obtain ⟨nF, nf, n0⟩ := k.own i d a e e1
    refine ⟨?_, nf, n0⟩
    cases q : F' a with
    | none => rfl
    | some o =>
      rcases g.new a o q with z | z
      · rw [nF] at z; cases z
      · obtain ⟨v, e2, r⟩ := k.slot i _ e
        rw [e1] at e2; cases e2
        obtain ⟨b, u, e3, q', _⟩ := ORep.addr (show ORep K mg M F H d (.ref a) from r)
        cases e3
        rw [q'] at z; cases z
  dis := k.dis
end

/-- .. and since the entry the heap has grown -/
structure SOk (K : PySem.W.Frag) (mg : Str → Option Value) (M : Am) (F0 H0 F H : Hp) (σ : L2.St) (ρ : DEnv) : Prop where
  gr : Gr M F0 H0 F H
  env : EOk K mg M H0 F H σ ρ

/-! ### judgements -/
abbrev DT := DEnv → (D → Prop) → (EX → Prop) → Prop
abbrev DA := DEnv → (List D → Prop) → (EX → Prop) → Prop
abbrev DB := DEnv → (Bool → Prop) → (EX → Prop) → Prop
structure Nds where
  nx : DEnv → Prop
  rt : D → Prop
  bk : DEnv → Prop := fun _ => False
  ct : DEnv → Prop := fun _ => False
  ex : EX → Prop
abbrev DS := Nds → DEnv → Prop
/-- an exception that lies as x says -/
def XRep (K : PySem.W.Frag) (mg : Str → Option Value) (M : Am) (F H : Hp) (x : EX) (c : Value) (dx : Option Addr) : Prop :=
  ∃ C, c = .ref C ∧ mg x.cls = some (.ref C) ∧ ∀ f d, x.fld = some (f, d) → ∃ a fs v, dx = some a ∧ H a = some (.xd fs) ∧ fs.lookup f = some v ∧ Rep K mg M F d v
section
variable (M : Am) (W : WX) (X : Cx)
def tE (t : DT) : TE := fun σ H QV => ∃ H0 F ρ Q E, EOk X.K X.mg M H0 F H σ ρ ∧ t ρ Q E ∧ (∀ v H' F' d, Gr M F H F' H' → Rep X.K X.mg M F' d v → Q d → QV v H') ∧
  ∀ x c dx H' F', Gr M F H F' H' → XRep X.K X.mg M F' H' x c dx → E x → W c dx σ H'
def tA (t : DA) : TA := fun σ H QV => ∃ H0 F ρ Q E, EOk X.K X.mg M H0 F H σ ρ ∧ t ρ Q E ∧ (∀ vs H' F' ds, Gr M F H F' H' → RepL X.K X.mg M F' ds vs → Q ds → QV vs H') ∧
  ∀ x c dx H' F', Gr M F H F' H' → XRep X.K X.mg M F' H' x c dx → E x → W c dx σ H'
def tT (t : DB) : TT := fun σ H QV => ∃ H0 F ρ Q E, EOk X.K X.mg M H0 F H σ ρ ∧ t ρ Q E ∧ (∀ b H' F', Gr M F H F' H' → Q b → QV b H') ∧
  ∀ x c dx H' F', Gr M F H F' H' → XRep X.K X.mg M F' H' x c dx → E x → W c dx σ H'
def tS (t : DS) : L2.TS := fun DE σ H => ∃ F0 H0 F ρ N, SOk X.K X.mg M F0 H0 F H σ ρ ∧ t N ρ ∧
  (∀ σ' H' F' ρ', Sub F F' → SOk X.K X.mg M F0 H0 F' H' σ' ρ' → N.nx ρ' → DE.nx σ' H') ∧
  (∀ σ' H' F' ρ', Sub F F' → SOk X.K X.mg M F0 H0 F' H' σ' ρ' → N.bk ρ' → DE.bk σ' H') ∧
  (∀ σ' H' F' ρ', Sub F F' → SOk X.K X.mg M F0 H0 F' H' σ' ρ' → N.ct ρ' → DE.ct σ' H') ∧
  (∀ v H' F' d, Gr M F0 H0 F' H' → Rep X.K X.mg M F' d v → N.rt d → DE.rt v H') ∧
  ∀ x c dx σ' H' F', Gr M F0 H0 F' H' → XRep X.K X.mg M F' H' x c dx → N.ex x → W c dx σ' H'
abbrev PuE (e : Expr) (t : DT) : Prop := PE X e (tE M W X t)
abbrev PuT (e : Expr) (t : DB) : Prop := PT X e (tT M W X t)
abbrev PuW (e : Expr) (t : DB) : Prop := PW X e (tT M W X t)
abbrev PuS (st : Stmt) (t : DS) : Prop := PS X st (tS M W X t)
abbrev PuSs (st : List Stmt) (t : DS) : Prop := PSs X st (tS M W X t)
end
theorem PEimp {X : Cx} {e : Expr} {t u : TE} (h : PE X e t) (k : ∀ σ H Q, u σ H Q → t σ H Q) : PE X e u := ⟨fun pins s σ H Q I q => h.run pins s σ H Q I (k σ H Q q)⟩
theorem PTimp {X : Cx} {e : Expr} {t u : TT} (h : PT X e t) (k : ∀ σ H Q, u σ H Q → t σ H Q) : PT X e u := ⟨fun pins s σ H Q I q => h.run pins s σ H Q I (k σ H Q q)⟩
theorem PWimp {X : Cx} {e : Expr} {t u : TT} (h : PW X e t) (k : ∀ σ H Q, u σ H Q → t σ H Q) : PW X e u := ⟨fun wh pins s σ H Q I q => h.run wh pins s σ H Q I (k σ H Q q)⟩
theorem PAimp {X : Cx} {es : List Expr} {t u : TA} (h : PA X es t) (k : ∀ σ H Q, u σ H Q → t σ H Q) : PA X es u := ⟨fun pos pins s σ H Q I q => h.run pos pins s σ H Q I (k σ H Q q)⟩
theorem PSimp {X : Cx} {st : Stmt} {t u : L2.TS} (h : PS X st t) (k : ∀ N σ H, u N σ H → t N σ H) : PS X st u := ⟨fun pins s σ H N I q => h.run pins s σ H N I (k N σ H q)⟩
theorem PSsimp {X : Cx} {st : List Stmt} {t u : L2.TS} (h : PSs X st t) (k : ∀ N σ H, u N σ H → t N σ H) : PSs X st u := ⟨fun pins s σ H N I q => h.run pins s σ H N I (k N σ H q)⟩
end PL
set_option Elab.async false
set_option linter.all false
set_option maxRecDepth 100000
namespace PL
open PySem PySem.Spec PyProof.Rows L2

/-! ### the readings' ends -/
section
variable {M : Am} {W : WX} {X : Cx}

theorem tE_val {t : DT} {σ : L2.St} {H H0 F : Hp} {ρ : DEnv} {Q : D → Prop} {E : EX → Prop} {QV : VK} (k : EOk X.K X.mg M H0 F H σ ρ) (ht : t ρ Q E)
    (q : ∀ v H' F' d, Gr M F H F' H' → Rep X.K X.mg M F' d v → Q d → QV v H') (e : ∀ x c dx H' F', Gr M F H F' H' → XRep X.K X.mg M F' H' x c dx → E x → W c dx σ H') : tE M W X t σ H QV := ⟨H0, F, ρ, Q, E, k, ht, q, e⟩

/-! ### names, constants -/
def dVar (i : Nat) : DT := fun ρ Q _ => match ρ[i]? with | some (some (.val d)) => Q d | _ => False
def dC (d : D) : DT := fun _ Q _ => Q d
theorem pu_var {i : Nat} {e : Expr} (h : PE X e (tVar i)) : PuE M W X e (dVar i) := PEimp h fun σ H QV ⟨H0, F, ρ, Q, E, k, ht, q, _⟩ => by
  unfold dVar at ht
  split at ht
  · rename_i d e1
    obtain ⟨v, e2, r⟩ := k.slot i _ e1
    exact ⟨v, e2, q v H F d k.refl r ht⟩
  · exact ht.elim
theorem pu_const {e : Expr} {v : V} {d : D} (h : PE X e (tC v)) (r : ∀ F, Rep X.K X.mg M F d v) : PuE M W X e (dC d) := PEimp h fun σ H QV ⟨H0, F, ρ, Q, E, k, ht, q, _⟩ => q v H F d k.refl (r F) ht
theorem pu_int {i : Int} {j pos} : PuE M W X (.Constant (.int i) j pos) (dC (.int i)) := pu_const pe_int fun _ => rfl
theorem pu_bl {i : Bool} {j pos} : PuE M W X (.Constant (.bool i) j pos) (dC (.bl i)) := pu_const pe_bl fun _ => rfl
theorem pu_non {j pos} : PuE M W X (.Constant .none j pos) (dC .non) := pu_const pe_non fun _ => rfl
theorem pu_str {i : Str} {j pos} : PuE M W X (.Constant (.str i) j pos) (dC (.str i)) := pu_const pe_str fun _ => rfl

/-! ### what an operation gives -/
inductive Ret where
  | no | ok (z : D) | cond (c : Prop) (z : D)
def Ret.to : Ret → (D → Prop) → Prop
  | .no, _ => False
  | .ok z, Q => Q z
  | .cond c z, Q => c ∧ Q z
def Ret.is : Ret → D → Prop
  | .no, _ => False
  | .ok z, d => z = d
  | .cond c z, d => c ∧ z = d
theorem Ret.of {r : Ret} {Q : D → Prop} (h : r.to Q) : ∃ z, r.is z ∧ Q z := by
  cases r with
  | no => exact h.elim
  | ok z => exact ⟨z, rfl, h⟩
  | cond c z => exact ⟨z, ⟨h.1, rfl⟩, h.2⟩

/-! ### operands -/
def tB (M : Am) (W : WX) (X : Cx) (t : DT) : TE := fun σ H QV => ∃ H0 F ρ Q E, EOk X.K X.mg M H0 F H σ ρ ∧ t ρ Q E ∧ (∀ v H' F' d, Gr M F H F' H' → ARep X.K X.mg M F' H' d v → Q d → QV v H') ∧
  ∀ x c dx H' F', Gr M F H F' H' → XRep X.K X.mg M F' H' x c dx → E x → W c dx σ H'
/-- an operand -/
abbrev PuB (M : Am) (W : WX) (X : Cx) (e : Expr) (t : DT) : Prop := PE X e (tB M W X t)
theorem pub_of {e : Expr} {t : DT} (h : PuE M W X e t) : PuB M W X e t := PEimp h fun σ H QV ⟨H0, F, ρ, Q, E, k, ht, q, e⟩ => ⟨H0, F, ρ, Q, E, k, ht, fun v H' F' d g r hq => q v H' F' d g (r.arep g.inn g.off) hq, e⟩
/-- a name, a thing of one's own too -/
def dVarB (i : Nat) : DT := fun ρ Q _ => match ρ[i]? with | some (some (.val d)) => Q d | some (some (.own d)) => Q d | _ => False
theorem pub_var {i : Nat} {e : Expr} (h : PE X e (tVar i)) : PuB M W X e (dVarB i) := PEimp h fun σ H QV ⟨H0, F, ρ, Q, E, k, ht, q, _⟩ => by
  unfold dVarB at ht
  split at ht
  · rename_i d e1
    obtain ⟨v, e2, r⟩ := k.slot i _ e1
    exact ⟨v, e2, q v H F d k.refl (Rep.arep k.inn k.off r) ht⟩
  · rename_i d e1
    obtain ⟨v, e2, r⟩ := k.slot i _ e1
    have r : ORep X.K X.mg M F H d v := r
    obtain ⟨a, o, rfl, _, _⟩ := ORep.addr r
    obtain ⟨_, nf, _⟩ := k.own i d a e1 e2
    refine ⟨_, e2, q _ H F d k.refl ?_ ht⟩
    cases d <;> first
      | exact r.elim
      | skip
    case lst ds =>
      obtain ⟨b, vs, e, h, rl⟩ := r
      cases e
      exact ⟨a, vs, rfl, nf, h, rl⟩
    case dct ks xs =>
      obtain ⟨b, vs, e, h, rl⟩ := r
      cases e
      exact ⟨a, vs, rfl, nf, .inl h, rl⟩
    case obj c ns ds =>
      obtain ⟨b, C, dx, fs, e, _, m, h, rl⟩ := r
      cases e
      exact ⟨a, C, dx, fs, rfl, nf, m, h, rl⟩
  · exact ht.elim

/-! ### two in a row -/
def dBin (f : D → D → Ret) (ta tb : DT) : DT := fun ρ Q E => ta ρ (fun x => tb ρ (fun y => (f x y).to Q) E) E
def dUn (f : D → Ret) (ta : DT) : DT := fun ρ Q E => ta ρ (fun x => (f x).to Q) E
/-- an operator by data -/
def rD (M : Am) (X : Cx) (f : D → D → Ret) : R2 := fun x y H Q => ∃ F dx dy dz, Gr M F H F H ∧ ARep X.K X.mg M F H dx x ∧ ARep X.K X.mg M F H dy y ∧ (f dx dy).is dz ∧ ∀ v H' F', Gr M F H F' H' → Rep X.K X.mg M F' dz v → Q v H'
def rD1 (M : Am) (X : Cx) (f : D → Ret) : V → Hp → VK → Prop := fun x H Q => ∃ F dx dz, Gr M F H F H ∧ ARep X.K X.mg M F H dx x ∧ (f dx).is dz ∧ ∀ v H' F', Gr M F H F' H' → Rep X.K X.mg M F' dz v → Q v H'
def rDL (M : Am) (X : Cx) (f : List D → Ret) : List V → Hp → VK → Prop := fun xs H Q => ∃ F ds dz, Gr M F H F H ∧ ARepL X.K X.mg M F H ds xs ∧ (f ds).is dz ∧ ∀ v H' F', Gr M F H F' H' → Rep X.K X.mg M F' dz v → Q v H'
theorem Gr.self {F H F' H' : Hp} (g : Gr M F H F' H') : Gr M F' H' F' H' := ⟨fun _ _ _ e => e, .refl _, g.inn, g.off, fun _ _ e => .inl e, g.inv⟩
variable {a b : Expr} {pos : Pos} {ta tb : DT} {f : D → D → Ret}
theorem bin_imp (σ : L2.St) (H : Hp) (QV : VK) (h : tE M W X (dBin f ta tb) σ H QV) : tOp (rD M X f) (tB M W X ta) (tB M W X tb) σ H QV := by
  obtain ⟨H0, F, ρ, Q, E, k, ht, q, e⟩ := h
  refine ⟨H0, F, ρ, _, E, k, ht, fun x H1 F1 dx g1 r1 h1 => ?_, e⟩
  refine ⟨H0, F1, ρ, _, E, k.grow g1, h1, fun y H2 F2 dy g2 r2 h2 => ?_, fun x c dx H' F' g => e x c dx H' F' (g1.trans g)⟩
  obtain ⟨dz, ez, h2⟩ := Ret.of h2
  exact ⟨F2, dx, dy, dz, g2.self, r1.grow g2, r2, ez, fun v H' F' g r => q v H' F' dz (g1.trans (g2.trans g)) r h2⟩
theorem pu_bin {op : Operator} (ho : OpR X (binaryOp op) (rD M X f)) (ha : PuB M W X a ta) (hb : PuB M W X b tb) : PuE M W X (.BinOp a op b pos) (dBin f ta tb) := PEimp (pe_op ho ha hb) bin_imp
theorem pu_cmp {op : CmpOp} (ho : OpR X (compareOp op) (rD M X f)) (hm : behindInMarks op b = false) (ha : PuB M W X a ta) (hb : PuB M W X b tb) : PuE M W X (.Compare a [op] [b] pos) (dBin f ta tb) := PEimp (pe_cmpR ho ha hb hm) bin_imp
theorem pu_ix (ho : IxR X (rD M X f)) (ha : PuB M W X a ta) (hb : PuB M W X b tb) (hs : PlainIx b := by exact fun _ _ => rfl) : PuE M W X (.Subscript a b pos) (dBin f ta tb) := PEimp (pe_ix ho ha hb hs) bin_imp
theorem pu_un {op : UnaryOp} {f : D → Ret} (ho : UnR X (unaryOp op) (rD1 M X f)) (ha : PuB M W X a ta) : PuE M W X (.UnaryOp op a pos) (dUn f ta) := PEimp (pe_un ho ha) fun σ H QV ⟨H0, F, ρ, Q, E, k, ht, q, e⟩ => by
  refine ⟨H0, F, ρ, _, E, k, ht, fun x H1 F1 dx g1 r1 h1 => ?_, e⟩
  obtain ⟨dz, ez, h1⟩ := Ret.of h1
  exact ⟨F1, dx, dz, g1.self, r1, ez, fun v H' F' g r => q v H' F' dz (g1.trans g) r h1⟩

/-! ### arguments, displays, built-ins by data -/
def dArgs : List DT → DA
  | [] => fun _ Q _ => Q []
  | t :: ts => fun ρ Q E => t ρ (fun x => dArgs ts ρ (fun xs => Q (x :: xs)) E) E
def tAll : List TE → TA
  | [] => tNil
  | t :: ts => tCons t (tAll ts)
/-- written arguments, one reading each -/
def PuA (M : Am) (W : WX) (X : Cx) (es : List Expr) (ts : List DT) : Prop := PA X es (tAll (ts.map (tE M W X)))
/-- .. as operands -/
def PuAB (M : Am) (W : WX) (X : Cx) (es : List Expr) (ts : List DT) : Prop := PA X es (tAll (ts.map (tB M W X)))
theorem all_imp : ∀ (ts : List DT) {σ : L2.St} {H H0 F : Hp} {ρ : DEnv} {Q : List D → Prop} {E : EX → Prop} {QV : List V → Hp → Prop}, EOk X.K X.mg M H0 F H σ ρ → dArgs ts ρ Q E →
    (∀ vs H' F' ds, Gr M F H F' H' → RepL X.K X.mg M F' ds vs → ds.length = ts.length → Q ds → QV vs H') → (∀ x c dx H' F', Gr M F H F' H' → XRep X.K X.mg M F' H' x c dx → E x → W c dx σ H') → tAll (ts.map (tE M W X)) σ H QV
  | [], _, _, _, _, _, _, _, _, k, ht, q, _ => q [] _ _ [] k.refl rfl rfl ht
  | t :: ts, _, _, H0, F, ρ, _, E, _, k, ht, q, e => by
    refine ⟨H0, F, ρ, _, E, k, ht, fun x H1 F1 dx g1 r1 h1 => ?_, e⟩
    exact all_imp ts (k.grow g1) h1 (fun xs H2 F2 ds g2 r2 l2 h2 => q _ H2 F2 _ (g1.trans g2) (.cons (Rep.mono g2.sub _ r1) r2) (by simp [l2]) h2) fun x c dx H' F' g => e x c dx H' F' (g1.trans g)
theorem allB_imp : ∀ (ts : List DT) {σ : L2.St} {H H0 F : Hp} {ρ : DEnv} {Q : List D → Prop} {E : EX → Prop} {QV : List V → Hp → Prop}, EOk X.K X.mg M H0 F H σ ρ → dArgs ts ρ Q E →
    (∀ vs H' F' ds, Gr M F H F' H' → ARepL X.K X.mg M F' H' ds vs → ds.length = ts.length → Q ds → QV vs H') → (∀ x c dx H' F', Gr M F H F' H' → XRep X.K X.mg M F' H' x c dx → E x → W c dx σ H') → tAll (ts.map (tB M W X)) σ H QV
  | [], _, _, _, _, _, _, _, _, k, ht, q, _ => q [] _ _ [] k.refl rfl rfl ht
  | t :: ts, _, _, H0, F, ρ, _, E, _, k, ht, q, e => by
    refine ⟨H0, F, ρ, _, E, k, ht, fun x H1 F1 dx g1 r1 h1 => ?_, e⟩
    exact allB_imp ts (k.grow g1) h1 (fun xs H2 F2 ds g2 r2 l2 h2 => q _ H2 F2 _ (g1.trans g2) (.cons (r1.grow g2) r2) (by simp [l2]) h2) fun x c dx H' F' g => e x c dx H' F' (g1.trans g)
theorem pu_anil : PuA M W X [] [] := pa_nil
theorem pu_acons {e : Expr} {es : List Expr} {te : DT} {ts : List DT} (he : PuE M W X e te) (hr : PuA M W X es ts) (hs : starEach (e :: es) X.env = (false, eval e X.env) :: starEach es X.env := by rfl) : PuA M W X (e :: es) (te :: ts) := pa_cons he hr hs
theorem pub_anil : PuAB M W X [] [] := pa_nil
theorem pub_acons {e : Expr} {es : List Expr} {te : DT} {ts : List DT} (he : PuB M W X e te) (hr : PuAB M W X es ts) (hs : starEach (e :: es) X.env = (false, eval e X.env) :: starEach es X.env := by rfl) : PuAB M W X (e :: es) (te :: ts) := pa_cons he hr hs
def dCall (f : List D → Ret) (ts : List DT) : DT := fun ρ Q E => dArgs ts ρ (fun xs => (f xs).to Q) E
variable {es : List Expr} {tes : List DT} {fl : List D → Ret}
theorem call_imp (σ : L2.St) (H : Hp) (QV : VK) (h : tE M W X (dCall fl tes) σ H QV) : tCB (rDL M X fl) (tAll (tes.map (tB M W X))) σ H QV := by
  obtain ⟨H0, F, ρ, Q, E, k, ht, q, e⟩ := h
  refine allB_imp tes k ht (fun x H1 F1 dx g1 r1 _ h1 => ?_) e
  obtain ⟨dz, ez, h1⟩ := Ret.of h1
  exact ⟨F1, dx, dz, g1.self, r1, ez, fun v H' F' g r => q v H' F' dz (g1.trans g) r h1⟩
theorem pu_callB {x : Str} {id : String} {p : Pos} {e : Expr} (hc : CallR X (.builtin id) (rDL M X fl)) (hg : Gl X x) (hm : X.mg x = none) (hv : bootBuiltins x = some (.builtin id)) (ha : PuAB M W X (e :: es) tes) (hn : x ≠ "__name__" := by decide) (hdb : (x == ("__debug__" : Str)) = false := by decide)
    (he : starEach (e :: es) X.env = (false, eval e X.env) :: starEach es X.env := by rfl) (hpl : (backTo pos (starEach es X.env)).any (·.1) = false := by rfl) : PuE M W X (.Call (.Name x p) (e :: es) [] pos) (dCall fl tes) := PEimp (pe_callB hc hg hm hv ha hn hdb he hpl) call_imp
theorem pu_callTy {x : Str} {T : String} {p : Pos} {e : Expr} (hc : CallR X (.type T) (rDL M X fl)) (hg : Gl X x) (hm : X.mg x = none) (hv : bootBuiltins x = some (.type T)) (ha : PuAB M W X (e :: es) tes) (hn : x ≠ "__name__" := by decide) (hdb : (x == ("__debug__" : Str)) = false := by decide)
    (he : starEach (e :: es) X.env = (false, eval e X.env) :: starEach es X.env := by rfl) (hpl : (backTo pos (starEach es X.env)).any (·.1) = false := by rfl) : PuE M W X (.Call (.Name x p) (e :: es) [] pos) (dCall fl tes) := PEimp (pe_callTy hc hg hm hv ha hn hdb he hpl) call_imp
/-- a new tuple, its object known -/
theorem tnew {pins : List (Addr × Obj)} {σ : L2.St} {H : Hp} {s : Shared} {vs : List V} {us : List Value} (I : L2.Inv X pins σ H s) (hv : Vals vs us) (hl : us.length ≤ sizeLine) {h' : Heap} {t' : Nat} (hk : ∀ (b : Addr) (u : Obj), s.heap.get? b = some u → h'.get? b = some u) :
    L2.Inv X pins σ (upd H h'.objs.size (.frz { cls := .type "tuple", data := .seq us.toArray } (.tup vs))) { s with heap := h'.push { cls := .type "tuple", data := .seq us.toArray }, toks := t' } := by
  have hg : (h'.push { cls := .type "tuple", data := .seq us.toArray }).get? h'.objs.size = some { cls := .type "tuple", data := .seq us.toArray } := Heap.get?_push_size _ rfl
  have I1 := I.kept (t' := t') hk
  exact I1.laid (t' := t') (fun b u e => Heap.get?_push_of_some _ e) (Nat.le_refl _) ⟨hg, by rw [hv.length]; exact hl, us, hv, _, hg, rfl, _, rfl⟩
def tTupF (t : TA) : TE := fun σ H Q => t σ H fun vs H1 => vs.length ≤ sizeLine ∧ ∀ p o, H1 p = none → TupO o → Q (.ref p) (upd H1 p (.frz o (.tup vs)))
theorem pe_tupF {x1 : Nat} {t : TA} (h : PA X es t) : PE X (.Tuple es x1 pos) (tTupF t) := ⟨fun pins s σ H Q I q => by
  refine wpAny_Tuple (thn (h.run pos pins s σ H _ I q) fun us s1 ⟨vs, H1, I1, hv, hl, q1⟩ => ?_)
  refine ⟨by rw [← hv.length]; exact hl, .ref s1.heap.objs.size, _, tnew I1 hv (by rw [← hv.length]; exact hl) (fun _ _ e => e), rfl, q1 _ _ I1.fresh ⟨_, rfl⟩⟩⟩
/-- a displayed tuple -/
def dTup (ts : List DT) : DT := fun ρ Q E => dArgs ts ρ (fun xs => Q (.tup xs)) E
theorem upd_sub {F : Hp} {p : Addr} {o : HO} (n : F p = none) : Sub F (upd F p o) := fun c u h => by rw [upd_ne (ne_of_none h n)]; exact h
theorem pu_tup {x1} (h : PuA M W X es tes) (hl : Nat.ble tes.length 1000 = true := by rfl) : PuE M W X (.Tuple es x1 pos) (dTup tes) := PEimp (pe_tupF h) fun σ H QV ⟨H0, F, ρ, Q, E, k, ht, q, e⟩ => by
  refine all_imp tes k ht (fun xs H1 F1 ds g1 r1 l1 h1 => ?_) e
  refine ⟨by rw [r1.length, l1]; exact Nat.le_trans (Nat.le_of_ble_eq_true hl) (by rw [sizeLine_eq]; decide), fun p o np to => ?_⟩
  exact q _ _ (upd F1 p (.frz o (.tup xs))) (.tup ds) (g1.laid _ np) ⟨p, o, xs, rfl, upd_same, to, RepL.mono (upd_sub (g1.noF np)) _ r1⟩ h1
end
end PL
set_option Elab.async false
set_option linter.all false
set_option maxRecDepth 100000
namespace PL
open PySem PySem.Spec PyProof.Rows L2

section
variable {M : Am} {W : WX} {X : Cx} {pos : Pos}

/-! ### tests -/
def dTest (t : DT) : DB := fun ρ Q E => t ρ (fun d => match d with | .bl b => Q b | _ => False) E
def bNot (t : DB) : DB := fun ρ Q E => t ρ (fun b => Q (!b)) E
def bAnd (t u : DB) : DB := fun ρ Q E => t ρ (fun b => if b = true then u ρ Q E else Q false) E
def bOr (t u : DB) : DB := fun ρ Q E => t ρ (fun b => if b = true then Q true else u ρ Q E) E
theorem Rep.bl_of {F : Hp} {K mg M} {d : D} {v : V} (h : Rep K mg M F d v) : ∀ b, d = .bl b → v = .bl b := fun b e => by subst e; exact h
theorem put_val {e : Expr} {t : DT} (h : PuE M W X e t) (he : ∀ whole, isTrue e X.env whole = (do let v ← whole; standAt e.pos; holding [v] (truthy v)) := by intro _; rfl) : PuT M W X e (dTest t) := PTimp (pt_val h he) fun σ H QV ⟨H0, F, ρ, Q, E, k, ht, q, e⟩ => by
  refine ⟨H0, F, ρ, _, E, k, ht, fun v H1 F1 d g1 r1 h1 => ?_, e⟩
  cases d <;> first
    | exact h1.elim
    | exact ⟨_, r1, q _ H1 F1 g1 h1⟩
theorem put_cmp {a b : Expr} {op : CmpOp} {ta tb : DT} {f : D → D → Ret} (ho : OpR X (compareOp op) (rD M X f)) (hm : behindInMarks op b = false) (ha : PuB M W X a ta) (hb : PuB M W X b tb) : PuT M W X (.Compare a [op] [b] pos) (dTest (dBin f ta tb)) := PTimp (pt_cmpR ho ha hb hm) fun σ H QV ⟨H0, F, ρ, Q, E, k, ht, q, e⟩ => by
  refine bin_imp (f := f) σ H _ ⟨H0, F, ρ, _, E, k, ht, fun v H1 F1 d g1 r1 h1 => ?_, e⟩
  cases d <;> first
    | exact h1.elim
    | exact ⟨_, r1, q _ H1 F1 g1 h1⟩
theorem put_not {a : Expr} {t : DB} (h : PuT M W X a t) : PuT M W X (.UnaryOp .Not a pos) (bNot t) := PTimp (pt_not h) fun σ H QV ⟨H0, F, ρ, Q, E, k, ht, q, e⟩ =>
  ⟨H0, F, ρ, _, E, k, ht, fun b H1 F1 g h1 => q _ H1 F1 g h1, e⟩
theorem puw_and1 {a : Expr} {t : DB} (h : PuT M W X a t) : PuW M W X (.BoolOp .And [a] pos) t := pw_and1 h
theorem puw_or1 {a : Expr} {t : DB} (h : PuT M W X a t) : PuW M W X (.BoolOp .Or [a] pos) t := pw_or1 h
theorem puw_and {a b : Expr} {rest : List Expr} {t u : DB} (h : PuT M W X a t) (h2 : PuW M W X (.BoolOp .And (b :: rest) pos) u) : PuW M W X (.BoolOp .And (a :: b :: rest) pos) (bAnd t u) := PWimp (pw_and h h2) fun σ H QV ⟨H0, F, ρ, Q, E, k, ht, q, e⟩ => by
  refine ⟨H0, F, ρ, _, E, k, ht, fun c H1 F1 g1 h1 => ?_, e⟩
  cases c with
  | true => exact ⟨H0, F1, ρ, Q, E, k.grow g1, h1, fun b H2 F2 g2 => q b H2 F2 (g1.trans g2), fun x c dx H' F' g => e x c dx H' F' (g1.trans g)⟩
  | false => exact q _ H1 F1 g1 h1
theorem puw_or {a b : Expr} {rest : List Expr} {t u : DB} (h : PuT M W X a t) (h2 : PuW M W X (.BoolOp .Or (b :: rest) pos) u) : PuW M W X (.BoolOp .Or (a :: b :: rest) pos) (bOr t u) := PWimp (pw_or h h2) fun σ H QV ⟨H0, F, ρ, Q, E, k, ht, q, e⟩ => by
  refine ⟨H0, F, ρ, _, E, k, ht, fun c H1 F1 g1 h1 => ?_, e⟩
  cases c with
  | true => exact q _ H1 F1 g1 h1
  | false => exact ⟨H0, F1, ρ, Q, E, k.grow g1, h1, fun b H2 F2 g2 => q b H2 F2 (g1.trans g2), fun x c dx H' F' g => e x c dx H' F' (g1.trans g)⟩
theorem put_w {e : Expr} {t : DB} (h : PuW M W X e t) : PuT M W X e t := h.pt
/-- and, or, not as values -/
def dAnd (t u : DT) : DT := fun ρ Q E => t ρ (fun d => match d with | .bl true => u ρ Q E | .bl false => Q (.bl false) | _ => False) E
def dOr (t u : DT) : DT := fun ρ Q E => t ρ (fun d => match d with | .bl true => Q (.bl true) | .bl false => u ρ Q E | _ => False) E
def dNot (t : DT) : DT := fun ρ Q E => t ρ (fun d => match d with | .bl b => Q (.bl (!b)) | _ => False) E
theorem pu_one {a : Expr} {op} {t : DT} (h : PuE M W X a t) : PuE M W X (.BoolOp op [a] pos) t := pe_one h
theorem pu_and {a b : Expr} {rest : List Expr} {t u : DT} (h : PuE M W X a t) (h2 : PuE M W X (.BoolOp .And (b :: rest) pos) u) : PuE M W X (.BoolOp .And (a :: b :: rest) pos) (dAnd t u) := PEimp (pe_and h h2) fun σ H QV ⟨H0, F, ρ, Q, E, k, ht, q, e⟩ => by
  refine ⟨H0, F, ρ, _, E, k, ht, fun v H1 F1 d g1 r1 h1 => ?_, e⟩
  cases d <;> first
    | exact h1.elim
    | skip
  case bl c =>
  refine ⟨c, r1, ?_⟩
  cases c with
  | true => exact ⟨H0, F1, ρ, Q, E, k.grow g1, h1, fun v H2 F2 d g2 => q v H2 F2 d (g1.trans g2), fun x c dx H' F' g => e x c dx H' F' (g1.trans g)⟩
  | false => exact q _ H1 F1 (.bl false) g1 rfl h1
theorem pu_or {a b : Expr} {rest : List Expr} {t u : DT} (h : PuE M W X a t) (h2 : PuE M W X (.BoolOp .Or (b :: rest) pos) u) : PuE M W X (.BoolOp .Or (a :: b :: rest) pos) (dOr t u) := PEimp (pe_or h h2) fun σ H QV ⟨H0, F, ρ, Q, E, k, ht, q, e⟩ => by
  refine ⟨H0, F, ρ, _, E, k, ht, fun v H1 F1 d g1 r1 h1 => ?_, e⟩
  cases d <;> first
    | exact h1.elim
    | skip
  case bl c =>
  refine ⟨c, r1, ?_⟩
  cases c with
  | false => exact ⟨H0, F1, ρ, Q, E, k.grow g1, h1, fun v H2 F2 d g2 => q v H2 F2 d (g1.trans g2), fun x c dx H' F' g => e x c dx H' F' (g1.trans g)⟩
  | true => exact q _ H1 F1 (.bl true) g1 rfl h1
theorem pu_not {a : Expr} {t : DT} (h : PuE M W X a t) : PuE M W X (.UnaryOp .Not a pos) (dNot t) := PEimp (pe_not h) fun σ H QV ⟨H0, F, ρ, Q, E, k, ht, q, e⟩ => by
  refine ⟨H0, F, ρ, _, E, k, ht, fun v H1 F1 d g1 r1 h1 => ?_, e⟩
  cases d <;> first
    | exact h1.elim
    | exact ⟨_, r1, q _ H1 F1 (.bl _) g1 rfl h1⟩
def dIfE (c : DB) (t u : DT) : DT := fun ρ Q E => c ρ (fun b => if b = true then t ρ Q E else u ρ Q E) E
theorem pu_ifExp {c a b : Expr} {tc : DB} {t u : DT} (hc : PuT M W X c tc) (ha : PuE M W X a t) (hb : PuE M W X b u) : PuE M W X (.IfExp c a b pos) (dIfE tc t u) := PEimp (pe_ifExp hc ha hb) fun σ H QV ⟨H0, F, ρ, Q, E, k, ht, q, e⟩ => by
  refine ⟨H0, F, ρ, _, E, k, ht, fun c H1 F1 g1 h1 => ?_, e⟩
  cases c with
  | true => exact ⟨H0, F1, ρ, Q, E, k.grow g1, h1, fun v H2 F2 d g2 => q v H2 F2 d (g1.trans g2), fun x c dx H' F' g => e x c dx H' F' (g1.trans g)⟩
  | false => exact ⟨H0, F1, ρ, Q, E, k.grow g1, h1, fun v H2 F2 d g2 => q v H2 F2 d (g1.trans g2), fun x c dx H' F' g => e x c dx H' F' (g1.trans g)⟩
/-- a < b < c -/
def dChain (f g : D → D → Ret) (ta tb tc : DT) : DT := fun ρ Q E => ta ρ (fun x => tb ρ (fun y => (f x y).to fun w => match w with | .bl true => tc ρ (fun z => (g y z).to Q) E | .bl false => Q (.bl false) | _ => False) E) E
theorem chain_imp {f g : D → D → Ret} {ta tb tc : DT} (σ : L2.St) (H : Hp) (QV : VK) (h : tE M W X (dChain f g ta tb tc) σ H QV) : tChain (rD M X f) (rD M X g) (tB M W X ta) (tB M W X tb) (tB M W X tc) σ H QV := by
  obtain ⟨H0, F, ρ, Q, E, k, ht, q, e⟩ := h
  refine ⟨H0, F, ρ, _, E, k, ht, fun x H1 F1 dx g1 r1 h1 => ?_, e⟩
  refine ⟨H0, F1, ρ, _, E, k.grow g1, h1, fun y H2 F2 dy g2 r2 h2 => ?_, fun x c dx H' F' g => e x c dx H' F' (g1.trans g)⟩
  have g12 := g1.trans g2
  obtain ⟨w, ew, h2⟩ := Ret.of h2
  split at h2
  · refine ⟨F2, dx, dy, .bl true, g2.self, r1.grow g2, r2, ew, fun v H3 F3 g3 r3 => ⟨true, r3, ?_⟩⟩
    rw [if_pos rfl]
    have g13 := g12.trans g3
    refine ⟨H0, F3, ρ, _, E, k.grow g13, h2, fun z H4 F4 dz g4 r4 h4 => ?_, fun x c dx H' F' g => e x c dx H' F' (g13.trans g)⟩
    obtain ⟨dw, ew, h4⟩ := Ret.of h4
    exact ⟨F4, dy, dz, dw, g4.self, r2.grow (g3.trans g4), r4, ew, fun v H' F' g r => q v H' F' dw (g13.trans (g4.trans g)) r h4⟩
  · refine ⟨F2, dx, dy, .bl false, g2.self, r1.grow g2, r2, ew, fun v H3 F3 g3 r3 => ⟨false, r3, ?_⟩⟩
    rw [if_neg (by decide)]
    exact q _ H3 F3 (.bl false) (g12.trans g3) rfl h2
  · exact h2.elim
theorem pu_chain {a b c : Expr} {op op' : CmpOp} {f g : D → D → Ret} {ta tb tc : DT} (ho : OpR X (compareOp op) (rD M X f)) (ho' : OpR X (compareOp op') (rD M X g)) (ha : PuB M W X a ta) (hb : PuB M W X b tb) (hc : PuB M W X c tc)
    (hm : lastMarks [op, op'] [b, c] = false := by with_unfolding_all rfl) : PuE M W X (.Compare a [op, op'] [b, c] pos) (dChain f g ta tb tc) := PEimp (pe_chain ho ho' ha hb hc hm) chain_imp
theorem put_chain {a b c : Expr} {op op' : CmpOp} {f g : D → D → Ret} {ta tb tc : DT} (ho : OpR X (compareOp op) (rD M X f)) (ho' : OpR X (compareOp op') (rD M X g)) (ha : PuB M W X a ta) (hb : PuB M W X b tb) (hc : PuB M W X c tc)
    (hm : lastMarks [op, op'] [b, c] = false := by with_unfolding_all rfl) : PuT M W X (.Compare a [op, op'] [b, c] pos) (dTest (dChain f g ta tb tc)) := PTimp (pt_chain ho ho' ha hb hc hm) fun σ H QV ⟨H0, F, ρ, Q, E, k, ht, q, e⟩ => by
  refine chain_imp (f := f) (g := g) σ H _ ⟨H0, F, ρ, _, E, k, ht, fun v H1 F1 d g1 r1 h1 => ?_, e⟩
  cases d <;> first
    | exact h1.elim
    | exact ⟨_, r1, q _ H1 F1 g1 h1⟩

/-! ### things of one's own -/
def tO (M : Am) (W : WX) (X : Cx) (t : DT) : TE := fun σ H QV => ∃ H0 F ρ Q E, EOk X.K X.mg M H0 F H σ ρ ∧ t ρ Q E ∧ (∀ a H' F' d, Gr M F H F' H' → H a = none → F' a = none → ORep X.K X.mg M F' H' d (.ref a) → Q d → QV (.ref a) H') ∧
  ∀ x c dx H' F', Gr M F H F' H' → XRep X.K X.mg M F' H' x c dx → E x → W c dx σ H'
/-- the value is a new list or dict that nobody else holds -/
abbrev PuO (M : Am) (W : WX) (X : Cx) (e : Expr) (t : DT) : Prop := PE X e (tO M W X t)
/-- what is new may be locked at once -/
theorem pe_fzl {e : Expr} {t : TE} (h : PE X e t) : PE X e (fun σ H Q => t σ H fun v H' => Q v H' ∨ ∃ a u, H' a = some u ∧ Mut (some u) ∧ ∀ od, Q v (upd H' a (.frz od u))) := ⟨fun pins s σ H Q I hw => by
  refine thn (h.run pins s σ H _ I hw) fun v s1 ⟨x, H1, I1, r, q⟩ => ?_
  rcases q with q | ⟨a, u, e1, mu, q⟩
  · exact ⟨x, H1, I1, r, q⟩
  · obtain ⟨od, I2⟩ := I1.lock e1 mu
    exact ⟨x, _, I2, r, q od⟩⟩
theorem ps_fzl {st : Stmt} {t : L2.TS} (h : PS X st t) : PS X st (fun D σ H => t D σ H ∨ ∃ a u, H a = some u ∧ Mut (some u) ∧ ∀ od, t D σ (upd H a (.frz od u))) := ⟨fun pins s σ H D I hw => by
  rcases hw with hw | ⟨a, u, e1, mu, hw⟩
  · exact h.run pins s σ H D I hw
  · obtain ⟨od, I2⟩ := I.lock e1 mu
    exact h.run pins s σ _ D I2 (hw od)⟩
/-- a list or a dict that is one's own is frozen; a dict is locked -/
theorem freezeO {F H F' H' : Hp} {a : Addr} {d : D} {QV : Hp → Prop} (g : Gr M F H F' H') (n : H a = none) (nF : F' a = none) (nf : ¬ M.fp a) (o : ORep X.K X.mg M F' H' d (.ref a))
    (q : ∀ F'' H'', Gr M F H F'' H'' → Sub F' F'' → (∀ b, b ≠ a → F'' b = F' b ∧ H'' b = H' b) → Rep X.K X.mg M F'' d (.ref a) → QV H'') : QV H' ∨ ∃ b u, H' b = some u ∧ Mut (some u) ∧ ∀ od, QV (upd H' b (.frz od u)) := by
  cases d <;> first
    | exact o.elim
    | skip
  case lst ds =>
    obtain ⟨b, vs, e, h, r⟩ := o
    cases e
    exact .inl (q _ H' (g.freeze h n nf nF) (upd_sub nF) (fun b nb => ⟨upd_ne nb, rfl⟩) ⟨a, vs, rfl, upd_same, RepL.mono (upd_sub nF) _ r⟩)
  case dct ks xs =>
    obtain ⟨b, kvs, e, h, r, r'⟩ := o
    cases e
    refine .inr ⟨a, _, h, trivial, fun od => ?_⟩
    have g' : Gr M F H F' (upd H' a (.frz od (.dK kvs))) := g.write n nf nF
    refine q (upd F' a (.frz od (.dK kvs))) _ (g'.freeze upd_same n nf nF) (upd_sub nF) (fun b nb => ⟨upd_ne nb, upd_ne nb⟩) ⟨a, kvs, rfl, .inr ⟨od, upd_same⟩, RepL.mono (upd_sub nF) _ r, RepL.mono (upd_sub nF) _ r'⟩
  case obj c ns ds =>
    obtain ⟨b, C, dx, fs, e, _, m, h, r, r'⟩ := o
    cases e
    exact .inl (q _ H' (g.freeze h n nf nF) (upd_sub nF) (fun b nb => ⟨upd_ne nb, rfl⟩) ⟨a, C, dx, fs, rfl, m, upd_same, r, RepL.mono (upd_sub nF) _ r'⟩)
theorem pu_fz {e : Expr} {t : DT} (h : PuO M W X e t) : PuE M W X e t := PEimp (pe_fzl h) fun σ H QV ⟨H0, F, ρ, Q, E, k, ht, q, e⟩ => by
  refine ⟨H0, F, ρ, Q, E, k, ht, fun a H' F' d g n nF o h1 => ?_, e⟩
  refine freezeO (QV := QV (.ref a)) g n nF (Gr.nofp k.inv n) o fun F'' H'' g' _ _ r => q _ H'' F'' d g' r h1
def dLst (ts : List DT) : DT := fun ρ Q E => dArgs ts ρ (fun xs => Q (.lst xs)) E
theorem pu_lst {es : List Expr} {tes : List DT} (h : PuA M W X es tes) (hl : Nat.ble tes.length 1000 = true := by rfl) : PuO M W X (.List es pos) (dLst tes) := PEimp (pe_lst h) fun σ H QV ⟨H0, F, ρ, Q, E, k, ht, q, e⟩ => by
  refine all_imp tes k ht (fun xs H1 F1 ds g1 r1 l1 h1 => ?_) e
  refine ⟨by rw [r1.length, l1]; exact Nat.le_trans (Nat.le_of_ble_eq_true hl) (by rw [sizeLine_eq]; decide), fun p np => ?_⟩
  exact q p _ F1 (.lst ds) (g1.laidH (.lst xs) np) (g1.free g1.inv np) (g1.noF np) ⟨p, xs, rfl, upd_same, r1⟩ h1
/-- a built-in that makes a new thing -/
def rO (M : Am) (X : Cx) (f : List D → Ret) : List V → Hp → VK → Prop := fun xs H Q => ∃ F ds dz, Gr M F H F H ∧ ARepL X.K X.mg M F H ds xs ∧ (f ds).is dz ∧ ∀ a H' F', Gr M F H F' H' → H a = none → F' a = none → ORep X.K X.mg M F' H' dz (.ref a) → Q (.ref a) H'
theorem callO_imp {fl : List D → Ret} {tes : List DT} (σ : L2.St) (H : Hp) (QV : VK) (h : tO M W X (dCall fl tes) σ H QV) : tCB (rO M X fl) (tAll (tes.map (tB M W X))) σ H QV := by
  obtain ⟨H0, F, ρ, Q, E, k, ht, q, e⟩ := h
  refine allB_imp tes k ht (fun x H1 F1 dx g1 r1 _ h1 => ?_) e
  obtain ⟨dz, ez, h1⟩ := Ret.of h1
  exact ⟨F1, dx, dz, g1.self, r1, ez, fun a H' F' g n nF r => q a H' F' dz (g1.trans g) (g1.free g1.inv n) nF r h1⟩
theorem puo_callB {x : Str} {id : String} {p : Pos} {e : Expr} {es : List Expr} {fl : List D → Ret} {tes : List DT} (hc : CallR X (.builtin id) (rO M X fl)) (hg : Gl X x) (hm : X.mg x = none) (hv : bootBuiltins x = some (.builtin id)) (ha : PuAB M W X (e :: es) tes) (hn : x ≠ "__name__" := by decide) (hdb : (x == ("__debug__" : Str)) = false := by decide)
    (he : starEach (e :: es) X.env = (false, eval e X.env) :: starEach es X.env := by rfl) (hpl : (backTo pos (starEach es X.env)).any (·.1) = false := by rfl) : PuO M W X (.Call (.Name x p) (e :: es) [] pos) (dCall fl tes) := PEimp (pe_callB hc hg hm hv ha hn hdb he hpl) callO_imp
theorem puo_callTy {x : Str} {T : String} {p : Pos} {e : Expr} {es : List Expr} {fl : List D → Ret} {tes : List DT} (hc : CallR X (.type T) (rO M X fl)) (hg : Gl X x) (hm : X.mg x = none) (hv : bootBuiltins x = some (.type T)) (ha : PuAB M W X (e :: es) tes) (hn : x ≠ "__name__" := by decide) (hdb : (x == ("__debug__" : Str)) = false := by decide)
    (he : starEach (e :: es) X.env = (false, eval e X.env) :: starEach es X.env := by rfl) (hpl : (backTo pos (starEach es X.env)).any (·.1) = false := by rfl) : PuO M W X (.Call (.Name x p) (e :: es) [] pos) (dCall fl tes) := PEimp (pe_callTy hc hg hm hv ha hn hdb he hpl) callO_imp
end
end PL
set_option Elab.async false
set_option linter.all false
set_option maxRecDepth 100000
namespace PL
open PySem PySem.Spec PyProof.Rows L2

/-! ### targets -/
inductive Tg where
  | name (i : Nat) | tup (ts : List Tg)
mutual
def Tg.slots : Tg → List Nat
  | .name i => [i]
  | .tup ts => slotsL ts
def slotsL : List Tg → List Nat
  | [] => []
  | t :: ts => t.slots ++ slotsL ts
end
mutual
def asg : Tg → D → DEnv → Option DEnv
  | .name i, d, ρ => some (ρ.set i (some (.val d)))
  | .tup ts, .tup ds, ρ => asgs ts ds ρ
  | .tup _, _, _ => none
def asgs : List Tg → List D → DEnv → Option DEnv
  | [], [], ρ => some ρ
  | t :: ts, d :: ds, ρ => (asg t d ρ).bind (asgs ts ds)
  | _, _, _ => none
end
/-- the slots are as they were but for some -/
def But (vs : List Nat) (σ σ' : L2.St) : Prop := σ'.length = σ.length ∧ ∀ i, i ∉ vs → σ'[i]? = σ[i]?
theorem But.trans {vs us : List Nat} {σ σ' σ'' : L2.St} (a : But vs σ σ') (b : But us σ' σ'') : But (vs ++ us) σ σ'' :=
  ⟨b.1.trans a.1, fun i h => (b.2 i fun z => h (List.mem_append_right _ z)).trans (a.2 i fun z => h (List.mem_append_left _ z))⟩
theorem wipe_get (σ : L2.St) (i : Nat) : ∀ vs : List Nat, (wipe σ vs)[i]? = if i ∈ vs ∧ i < σ.length then some none else σ[i]?
  | [] => by simp [wipe]
  | v :: vs => by
    unfold wipe
    by_cases h : v = i
    · subst h
      by_cases hl : v < σ.length
      · rw [List.getElem?_set_self (by rw [wipe_length]; exact hl), if_pos ⟨List.mem_cons_self, hl⟩]
      · rw [if_neg (fun q => hl q.2), List.getElem?_eq_none (by rw [List.length_set, wipe_length]; omega), List.getElem?_eq_none (by omega)]
    · rw [List.getElem?_set_ne h, wipe_get σ i vs]
      have e : (i ∈ v :: vs) ↔ (i ∈ vs) := by simp [Ne.symm h]
      simp only [e]
theorem But.wipe {vs us : List Nat} {σ σ' : L2.St} (h : But us σ σ') (k : ∀ i ∈ us, i ∈ vs) : wipe σ' vs = wipe σ vs := by
  refine List.ext_getElem? fun i => ?_
  rw [wipe_get, wipe_get, h.1]
  by_cases z : i ∈ vs
  · by_cases hl : i < σ.length
    · rw [if_pos ⟨z, hl⟩, if_pos ⟨z, hl⟩]
    · rw [if_neg (fun q => hl q.2), if_neg (fun q => hl q.2), List.getElem?_eq_none (by rw [h.1]; omega), List.getElem?_eq_none (by omega)]
  · rw [if_neg (fun q => z q.1), if_neg (fun q => z q.1)]
    exact h.2 i fun q => z (k i q)
section
variable {M : Am} {W : WX} {X : Cx} {pos : Pos}
def tG (M : Am) (X : Cx) (T : Tg) : TG := fun v σ H Q => ∃ H0 F ρ ρ' d, EOk X.K X.mg M H0 F H σ ρ ∧ Rep X.K X.mg M F d v ∧ asg T d ρ = some ρ' ∧ ∀ σ', But T.slots σ σ' → EOk X.K X.mg M H0 F H σ' ρ' → Q σ' H
def tGs (M : Am) (X : Cx) (T : List Tg) : TGs := fun vs σ H Q => ∃ H0 F ρ ρ' ds, EOk X.K X.mg M H0 F H σ ρ ∧ RepL X.K X.mg M F ds vs ∧ asgs T ds ρ = some ρ' ∧ ∀ σ', But (slotsL T) σ σ' → EOk X.K X.mg M H0 F H σ' ρ' → Q σ' H
abbrev PuG (M : Am) (X : Cx) (tg : Expr) (T : Tg) : Prop := PG X tg (tG M X T)
abbrev PuGs (M : Am) (X : Cx) (tgs : List Expr) (T : List Tg) : Prop := PGs X tgs (tGs M X T)
theorem PGimp {X : Cx} {e : Expr} {t u : TG} (h : PG X e t) (k : ∀ v σ H Q, u v σ H Q → t v σ H Q) : PG X e u := ⟨fun pins s σ H v uu Q I r q => h.run pins s σ H v uu Q I r (k v σ H Q q)⟩
theorem PGsimp {X : Cx} {e : List Expr} {t u : TGs} (h : PGs X e t) (k : ∀ v σ H Q, u v σ H Q → t v σ H Q) : PGs X e u := ⟨fun pins s σ H v uu Q I r q => h.run pins s σ H v uu Q I r (k v σ H Q q)⟩
/-- a datum is stored -/
theorem EOk.set {K : PySem.W.Frag} {mg : Str → Option Value} {H0 F H : Hp} {σ : L2.St} {ρ : DEnv} (k : EOk K mg M H0 F H σ ρ) (i : Nat) {d : D} {v : V} (r : Rep K mg M F d v) : EOk K mg M H0 F H (σ.set i (some v)) (ρ.set i (some (.val d))) := by
  have old : ∀ (j : Nat) e, (ρ.set i (some (.val d)))[j]? = some (some (.own e)) → j ≠ i ∧ ρ[j]? = some (some (.own e)) := fun j e h => by
    by_cases z : i = j
    · subst z
      by_cases hl : i < ρ.length
      · rw [List.getElem?_set_self hl] at h; cases h
      · rw [List.getElem?_eq_none (by simpa using hl)] at h; cases h
    · rw [List.getElem?_set_ne z] at h; exact ⟨fun q => z q.symm, h⟩
  refine ⟨k.inn, k.off, k.inv, by simp [k.len], fun j c e => ?_, fun j e a h1 h2 => ?_, fun j l e e' a h1 h2 h3 h4 => ?_⟩
  · by_cases z : i = j
    · subst z
      have hl : i < ρ.length := by
        by_cases hl : i < ρ.length
        · exact hl
        · rw [List.getElem?_eq_none (by simpa using hl)] at e; cases e
      rw [List.getElem?_set_self hl] at e
      cases e
      exact ⟨v, by rw [List.getElem?_set_self (by rw [← k.len]; exact hl)], r⟩
    · rw [List.getElem?_set_ne z] at e ⊢
      exact k.slot j c e
  · obtain ⟨ne, h⟩ := old j e h1
    rw [List.getElem?_set_ne (Ne.symm ne)] at h2
    exact k.own j e a h h2
  · obtain ⟨ne, h⟩ := old j e h1
    obtain ⟨ne', h'⟩ := old l e' h2
    rw [List.getElem?_set_ne (Ne.symm ne)] at h3
    rw [List.getElem?_set_ne (Ne.symm ne')] at h4
    exact k.dis j l e e' a h h' h3 h4
theorem pug_name {i : Nat} {tg : Expr} (h : PG X tg (gName i)) : PuG M X tg (.name i) := PGimp h fun v σ H Q ⟨H0, F, ρ, ρ', d, k, r, e, q⟩ => by
  cases e
  exact q _ ⟨by simp, fun j h => List.getElem?_set_ne (fun z => h (by simp [Tg.slots, z]))⟩ (k.set i r)
theorem pug_nil : PuGs M X [] [] := PGsimp pgs_nil fun vs σ H Q ⟨H0, F, ρ, ρ', ds, k, r, e, q⟩ => by
  cases ds with
  | nil =>
    cases e
    exact ⟨r, q _ ⟨rfl, fun _ _ => rfl⟩ k⟩
  | cons d ds => cases e
theorem pug_cons {e : Expr} {es : List Expr} {T : Tg} {Ts : List Tg} (h1 : PuG M X e T) (h2 : PuGs M X es Ts) (hs : (assignEach (e :: es) X.env).map (·.2) = assign e X.env :: (assignEach es X.env).map (·.2) := by rfl) : PuGs M X (e :: es) (T :: Ts) := PGsimp (pgs_cons h1 h2 hs) fun vs σ H Q ⟨H0, F, ρ, ρ', ds, k, r, e, q⟩ => by
  cases ds with
  | nil => cases e
  | cons d ds =>
    obtain ⟨x, xs, rfl, r1, r2⟩ := r
    obtain ⟨ρ1, e1, e2⟩ := Option.bind_eq_some_iff.mp e
    exact ⟨x, xs, rfl, H0, F, ρ, ρ1, d, k, r1, e1, fun σ' b' k' => ⟨H0, F, ρ1, ρ', ds, k', r2, e2, fun σ'' b k => q σ'' (b'.trans b) k⟩⟩
theorem asgs_len : ∀ {ts : List Tg} {ds : List D} {ρ ρ' : DEnv}, asgs ts ds ρ = some ρ' → ds.length = ts.length
  | [], [], _, _, _ => rfl
  | [], _ :: _, _, _, h => by cases h
  | _ :: _, [], _, _, h => by cases h
  | t :: ts, d :: ds, _, _, h => by
    obtain ⟨ρ1, _, e2⟩ := Option.bind_eq_some_iff.mp h
    simp [asgs_len e2]
theorem pug_tup {es : List Expr} {k : Nat} {Ts : List Tg} (hc : X.calm = true) (h : PuGs M X es Ts) (hn : (assignEach es X.env).length = Ts.length := by rfl) (hst : (assignEach es X.env).findIdx? (·.1) = none := by rfl) : PuG M X (.Tuple es k pos) (.tup Ts) := PGimp (pg_tup hc h hn hst) fun v σ H Q ⟨H0, F, ρ, ρ', d, k, r, e, q⟩ => by
  cases d <;> first
    | (simp [asg] at e; done)
    | skip
  case tup ds =>
  obtain ⟨a, vs, rfl, sq, rl⟩ := rep_tup r
  refine ⟨a, vs, rfl, ?_, by rw [rl.length]; exact asgs_len e, H0, F, ρ, ρ', ds, k, rl, e, q⟩
  exact Sub.seqT k.inn sq
end

/-! ### what is walked -/
/-- in a state where F stands, the iterator J yields the items, then stops -/
def Iters (K : PySem.W.Frag) (mg : Str → Option Value) (M : Am) (J : It) (F : Hp) (items : List D) : Prop :=
  ∀ F' H', Gr M F' H' F' H' → Sub F F' → (∀ (i : Nat) d, items[i]? = some d → J.go i H' ∧ ∀ x H'', J.yld i H' x H'' → ∃ F'', Gr M F' H' F'' H'' ∧ Rep K mg M F'' d x) ∧ J.stop items.length H'
abbrev DI := DEnv → (List D → Prop) → (EX → Prop) → Prop
section
variable {M : Am} {W : WX} {X : Cx} {pos : Pos}
def tI (M : Am) (W : WX) (X : Cx) (wi : DI) : TI := fun σ H R => ∃ H0 F ρ Q E, EOk X.K X.mg M H0 F H σ ρ ∧ wi ρ Q E ∧ (∀ J H' F' items, Gr M F H F' H' → Iters X.K X.mg M J F' items → Q items → R J H') ∧
  ∀ x c dx H' F', Gr M F H F' H' → XRep X.K X.mg M F' H' x c dx → E x → W c dx σ H'
abbrev PuI (M : Am) (W : WX) (X : Cx) (tg iter : Expr) (wi : DI) : Prop := PI X tg iter (tI M W X wi)
theorem PIimp {X : Cx} {tg e : Expr} {t u : TI} (h : PI X tg e t) (k : ∀ σ H Q, u σ H Q → t σ H Q) : PI X tg e u := ⟨fun pins s σ H Q I q => h.run pins s σ H Q I (k σ H Q q)⟩
/-- a list or a tuple -/
def iSeq (t : DT) : DI := fun ρ Q E => t ρ (fun d => match d with | .lst ds => Q ds | .tup ds => Q ds | _ => False) E
theorem iters_list {a : Addr} {vs : List V} {ds : List D} {F : Hp} {K : PySem.W.Frag} {mg : Str → Option Value} (h : F a = some (.lst vs)) (r : RepL K mg M F ds vs) : Iters K mg M (Itl K a) F ds := fun F' H' g s => by
  have hq : SqL K H' a vs := .inl (.inl (g.inn _ _ (s _ _ h)))
  refine ⟨fun i d e => ?_, ⟨vs, hq, Nat.le_of_eq (by rw [r.length])⟩⟩
  obtain ⟨v, e1, r1⟩ := r.get e
  refine ⟨⟨vs, v, hq, e1⟩, fun x H'' y => ?_⟩
  obtain ⟨e2, y⟩ := y
  subst e2
  have := y vs hq
  rw [e1] at this; cases this
  exact ⟨F', g, Rep.mono s _ r1⟩
theorem iters_tup {a : Addr} {vs : List V} {ds : List D} {F : Hp} {K : PySem.W.Frag} {mg : Str → Option Value} (h : SqT K F a vs) (r : RepL K mg M F ds vs) : Iters K mg M (Itt K a) F ds := fun F' H' g s => by
  have hq : SqT K H' a vs := Sub.seqT (s.trans g.inn) h
  refine ⟨fun i d e => ?_, ⟨vs, hq, Nat.le_of_eq (by rw [r.length])⟩⟩
  obtain ⟨v, e1, r1⟩ := r.get e
  refine ⟨⟨vs, v, hq, e1⟩, fun x H'' y => ?_⟩
  obtain ⟨e2, y⟩ := y
  subst e2
  have := y vs hq
  rw [e1] at this; cases this
  exact ⟨F', g, Rep.mono s _ r1⟩
theorem iters_rng {lo : Int} {n : Nat} {F : Hp} {K : PySem.W.Frag} {mg : Str → Option Value} : Iters K mg M (Itr lo n) F ((List.range n).map fun i => .int (lo + (i : Nat))) := fun F' H' g s => by
  refine ⟨fun i d e => ?_, by simp [Itr]⟩
  have hi : i < n := by
    have := (List.getElem?_eq_some_iff.mp e).1
    simpa using this
  refine ⟨hi, fun x H'' y => ?_⟩
  obtain ⟨e2, y⟩ := y
  subst e2 y
  refine ⟨F', g, ?_⟩
  rw [List.getElem?_map, List.getElem?_range hi] at e
  cases e
  rfl
/-- whether the walked thing is a list or a tuple is decided by its datum -/
theorem pui_seq {tg l : Expr} {t : DT} (h : PuE M W X l t) : PuI M W X tg l (iSeq t) := ⟨fun pins s σ H R I ⟨H0, F, ρ, Q, E, k, ht, q, e⟩ => by
  refine thn (h.run pins s σ H (fun v H1 => ∃ F1 ds, Gr M F H F1 H1 ∧ Q ds ∧ ((Rep X.K X.mg M F1 (.lst ds) v) ∨ (Rep X.K X.mg M F1 (.tup ds) v))) I ⟨H0, F, ρ, _, E, k, ht, fun v H1 F1 d g r hq => ?_, e⟩) fun v s1 ⟨x, H1, I1, r1, F1, ds, g, hq, q1⟩ => ?_
  · cases d <;> first
      | exact hq.elim
      | exact ⟨F1, _, g, hq, .inl r⟩
      | exact ⟨F1, _, g, hq, .inr r⟩
  · rcases q1 with r | r
    · obtain ⟨a, vs, rfl, hF, rl⟩ := r
      cases r1
      have hq' : SqL X.K H1 a vs := .inl (.inl (g.inn _ _ hF))
      obtain ⟨its, rv, p, hz⟩ := I1.list hq'
      refine wpAny_pyIter_list p.isList ?_
      refine ⟨s1.heap.objs.size, [s1.heap.objs.size], _, _, H1, rfl, I1.kept (t' := s1.toks) fun b o e => Heap.get?_push_of_some _ e, turn_list a _, ⟨_, Heap.get?_push_size _ rfl, rfl, rfl⟩, fun b hb => ?_, q _ H1 F1 ds g (iters_list hF rl) hq⟩
      have e : b = s1.heap.objs.size := by simpa using hb
      subst e
      exact I1.fpOk (Nat.le_refl _) (I1.hok.fresh (Nat.le_refl _))
    · obtain ⟨a, vs, rfl, hF, rl⟩ := rep_tup r
      cases r1
      have hq' : SqT X.K H1 a vs := Sub.seqT g.inn hF
      obtain ⟨its, rv, p, hz⟩ := I1.tuple hq'
      refine wpAny_pyIter_tuple (show s1.heap.IsTuple a its.toArray from p) ?_
      refine ⟨s1.heap.objs.size, [s1.heap.objs.size], _, _, H1, rfl, I1.kept (t' := s1.toks) fun b o e => Heap.get?_push_of_some _ e, turn_tuple a _, ⟨_, Heap.get?_push_size _ rfl, rfl, rfl⟩, fun b hb => ?_, q _ H1 F1 ds g (iters_tup hF rl) hq⟩
      have e : b = s1.heap.objs.size := by simpa using hb
      subst e
      exact I1.fpOk (Nat.le_refl _) (I1.hok.fresh (Nat.le_refl _))⟩
/-- range -/
def dRng (lo : Int) (n : Nat) : List D := (List.range n).map fun i => .int (lo + (i : Nat))
def iRange1 (ts : List DT) : DI := fun ρ Q E => dArgs ts ρ (fun ds => match ds with | [.int j] => -(2 ^ 62) ≤ j ∧ j < 2 ^ 62 ∧ Q (dRng 0 j.toNat) | _ => False) E
def iRange2 (ts : List DT) : DI := fun ρ Q E => dArgs ts ρ (fun ds => match ds with | [.int i, .int j] => (-(2 ^ 62) ≤ i ∧ i < 2 ^ 62 ∧ -(2 ^ 62) ≤ j ∧ j < 2 ^ 62) ∧ Q (dRng i (j - i).toNat) | _ => False) E
theorem pui_range1 {tg a : Expr} {p : Pos} {ts : List DT} (hg : Gl X "range") (hm : X.mg "range" = none) (ha : PuA M W X [a] ts) (hs : starEach [a] X.env = [(false, eval a X.env)] := by rfl) : PuI M W X tg (.Call (.Name "range" p) [a] [] pos) (iRange1 ts) := PIimp (pi_range1 hg hm ha hs) fun σ H R ⟨H0, F, ρ, Q, E, k, ht, q, e⟩ => by
  refine all_imp ts k ht (fun vs H1 F1 ds g r _ h1 => ?_) e
  split at h1
  · obtain ⟨x, rfl, r1⟩ := r.one
    have r : x = V.int _ := r1
    subst r
    exact ⟨_, rfl, h1.1, h1.2.1, q _ H1 F1 _ g iters_rng h1.2.2⟩
  · exact h1.elim
theorem pui_range2 {tg a b : Expr} {p : Pos} {ts : List DT} (hg : Gl X "range") (hm : X.mg "range" = none) (ha : PuA M W X [a, b] ts) (hs : starEach [a, b] X.env = [(false, eval a X.env), (false, eval b X.env)] := by rfl) (hs2 : starEach [b] X.env = [(false, eval b X.env)] := by rfl) : PuI M W X tg (.Call (.Name "range" p) [a, b] [] pos) (iRange2 ts) := PIimp (pi_range2 hg hm ha hs hs2) fun σ H R ⟨H0, F, ρ, Q, E, k, ht, q, e⟩ => by
  refine all_imp ts k ht (fun vs H1 F1 ds g r _ h1 => ?_) e
  split at h1
  · obtain ⟨x, y, rfl, r1, r1'⟩ := r.two
    have r : x = V.int _ := r1
    have r' : y = V.int _ := r1'
    subst r r'
    exact ⟨_, _, rfl, h1.1, q _ H1 F1 _ g iters_rng h1.2⟩
  · exact h1.elim

/-! ### comprehensions -/
def NoX : EX → Prop := fun _ => False
def NoW : WX := fun _ _ _ _ => False
/-- a clause's tests -/
abbrev PuTs (M : Am) (W : WX) (X : Cx) (ifs : List Expr) (t : DB) : Prop := PTs X ifs (tT M W X t)
theorem PTsimp {X : Cx} {e : List Expr} {t u : TT} (h : PTs X e t) (k : ∀ σ H Q, u σ H Q → t σ H Q) : PTs X e u := ⟨fun pins s σ H Q I q => h.run pins s σ H Q I (k σ H Q q)⟩
def bYes : DB := fun _ Q _ => Q true
theorem puts_nil : PuTs M W X [] bYes := PTsimp pts_nil fun σ H Q ⟨H0, F, ρ, Q', E, k, ht, q, e⟩ => q true H F k.refl ht
theorem puts_one {c : Expr} {t : DB} (h : PuT M W X c t) : PuTs M W X [c] t := pts_one h
def wipeE (ρ : DEnv) : List Nat → DEnv
  | [] => ρ
  | v :: vs => (wipeE ρ vs).set v none
theorem EOk.unset {K : PySem.W.Frag} {mg : Str → Option Value} {H0 F H : Hp} {σ : L2.St} {ρ : DEnv} (k : EOk K mg M H0 F H σ ρ) (i : Nat) : EOk K mg M H0 F H (σ.set i none) (ρ.set i none) := by
  have old : ∀ (j : Nat) c, (ρ.set i none)[j]? = some (some c) → j ≠ i ∧ ρ[j]? = some (some c) := fun j e h => by
    by_cases z : i = j
    · subst z
      by_cases hl : i < ρ.length
      · rw [List.getElem?_set_self hl] at h; cases h
      · rw [List.getElem?_eq_none (by simpa using hl)] at h; cases h
    · rw [List.getElem?_set_ne z] at h; exact ⟨fun q => z q.symm, h⟩
  refine ⟨k.inn, k.off, k.inv, by simp [k.len], fun j c e => ?_, fun j e a h1 h2 => ?_, fun j l e e' a h1 h2 h3 h4 => ?_⟩
  · obtain ⟨ne, h⟩ := old j c e
    rw [List.getElem?_set_ne (Ne.symm ne)]
    exact k.slot j c h
  · obtain ⟨ne, h⟩ := old j _ h1
    rw [List.getElem?_set_ne (Ne.symm ne)] at h2
    exact k.own j e a h h2
  · obtain ⟨ne, h⟩ := old j _ h1
    obtain ⟨ne', h'⟩ := old l _ h2
    rw [List.getElem?_set_ne (Ne.symm ne)] at h3
    rw [List.getElem?_set_ne (Ne.symm ne')] at h4
    exact k.dis j l e e' a h h' h3 h4
theorem EOk.wipe {K : PySem.W.Frag} {mg : Str → Option Value} {H0 F H : Hp} {σ : L2.St} {ρ : DEnv} (k : EOk K mg M H0 F H σ ρ) : ∀ vs : List Nat, EOk K mg M H0 F H (wipe σ vs) (wipeE ρ vs)
  | [] => k
  | v :: vs => (EOk.wipe k vs).unset v
/-- the items, then what is made of the list -/
def compK (T : Tg) (tt : DB) (te : DT) (ρ : DEnv) : List D → (List D → Prop) → Prop
  | [], k => k []
  | d :: ds, k => match asg T d ρ with
    | some ρ' => tt ρ' (fun b => if b = true then te ρ' (fun y => compK T tt te ρ ds fun ys => k (y :: ys)) NoX else compK T tt te ρ ds k) NoX
    | none => False
def dComp (wi : DI) (T : Tg) (tt : DB) (te : DT) (vs : List Nat) : DT := fun ρ Q E => wi ρ (fun items => items.length ≤ 16777216 ∧ compK T tt te (wipeE ρ vs) items fun ys => Q (.lst ys)) E

theorem dropget {α : Type} {l : List α} {i : Nat} (h : i < l.length) : l.drop i = l[i] :: l.drop (i + 1) := List.drop_eq_getElem_cons h
/-- soundness of a comprehension's loop -/
theorem comp_imp {wi : DI} {T : Tg} {tt : DB} {te : DT} {vs : List Nat} (hT : ∀ i ∈ T.slots, i ∈ vs) (σ : L2.St) (H : Hp) (QV : VK) (h : tO M W X (dComp wi T tt te vs) σ H QV) :
    tLc (tI M W X wi) (tG M X T) (tT M NoW X tt) (tE M NoW X te) vs σ H QV := by
  obtain ⟨H0, F, ρ, Q, E, k, ht, q, e⟩ := h
  refine ⟨H0, F, ρ, _, E, k, ht, fun J H1 F1 items g1 J1 h1 => ?_, e⟩
  obtain ⟨hz, h1⟩ := h1
  intro L nL
  have k1 := k.grow g1
  have nf : ¬ M.fp L := fun z => M.tr H1 L g1.inv z nL
  have nL0 : H L = none := g1.free g1.inv nL
  have gL : Gr M F H F1 (upd H1 L (.lst [])) := g1.laidH _ nL
  -- the loop
  refine ⟨fun i m H' => ∃ F' acc ds, Gr M F H F' H' ∧ Sub F1 F' ∧ F' L = none ∧ H' L = some (.lst acc) ∧ acc.length ≤ i ∧ i + m = items.length ∧ RepL X.K X.mg M F' ds acc ∧ compK T tt te (wipeE ρ vs) (items.drop i) (fun ys => Q (.lst (ds ++ ys))),
    ⟨items.length, F1, [], [], gL, .refl _, g1.noF nL, upd_same, Nat.le_refl _, by omega, rfl, h1⟩, ?_⟩
  rintro i m H' ⟨F', acc, ds, g, s1, nFL, hL, hl, hm, r, hc⟩
  have kk := k.grow g
  obtain ⟨hgo, hstop⟩ := J1 F' H' g.self s1
  by_cases hi : i < items.length
  · rw [dropget hi] at hc
    obtain ⟨go, yld⟩ := hgo i items[i] (List.getElem?_eq_getElem hi)
    refine .inr ⟨go, fun H'' => ∃ F'' acc ds, Gr M F H F'' H'' ∧ Sub F1 F'' ∧ F'' L = none ∧ H'' L = some (.lst acc) ∧ acc.length ≤ i + 1 ∧ RepL X.K X.mg M F'' ds acc ∧ compK T tt te (wipeE ρ vs) (items.drop (i + 1)) (fun ys => Q (.lst (ds ++ ys))), ?_, fun x H2 y => ?_⟩
    · rintro H'' ⟨F'', acc', ds', a1, a2, a3, a4, a5, a6, a7⟩
      exact ⟨m - 1, by omega, F'', acc', ds', a1, a2, a3, a4, a5, by omega, a6, a7⟩
    · obtain ⟨F2, g2, r2⟩ := yld x H2 y
      have g02 := g.trans g2
      have k2 := (k.grow g02).wipe vs
      have stay : ∀ {F3 H3 : Hp}, Gr M F2 H2 F3 H3 → F3 L = none ∧ H3 L = some (.lst acc) := fun {F3 H3} g3 => by
        have g23 := g2.trans g3
        refine ⟨?_, g23.ext _ _ nf hL⟩
        cases z : F3 L with
        | none => rfl
        | some o =>
          rcases g23.new L o z with z | z
          · rw [nFL] at z; cases z
          · rw [hL] at z; cases z
      unfold compK at hc
      split at hc
      · rename_i ρ' ea
        refine ⟨H0, F2, _, ρ', _, k2, r2, ea, fun σ' bt k3 => ?_⟩
        refine ⟨(bt.wipe hT).trans ?_, H0, F2, ρ', _, NoX, k3, hc, fun b H3 F3 g3 h3 => ?_, fun _ _ _ _ _ _ _ z => z.elim⟩
        · exact But.wipe ⟨wipe_length _ _, fun i hi => by rw [wipe_get, if_neg (fun q => hi q.1)]⟩ (fun _ z => z)
        · obtain ⟨nF3, hL3⟩ := stay g3
          cases b with
          | false =>
            rw [if_neg (by decide)] at h3
            exact ⟨F3, acc, ds, g02.trans g3, (s1.trans g2.sub).trans g3.sub, nF3, hL3, by omega, RepL.mono (g2.sub.trans g3.sub) _ r, h3⟩
          | true =>
            rw [if_pos rfl] at h3
            refine ⟨H0, F3, ρ', _, NoX, k3.grow g3, h3, fun v H4 F4 d g4 r4 h4 => ?_, fun _ _ _ _ _ _ _ z => z.elim⟩
            obtain ⟨nF4, hL4⟩ := stay (g3.trans g4)
            have g04 := g02.trans (g3.trans g4)
            refine ⟨acc, hL4, by rw [sizeLine_eq]; omega, F4, acc ++ [v], ds ++ [d], g04.write nL0 nf nF4, (s1.trans g2.sub).trans (g3.sub.trans g4.sub), nF4, upd_same, by simp; omega, (RepL.mono (g2.sub.trans (g3.sub.trans g4.sub)) _ r).snoc r4, ?_⟩
            have e2 : (fun ys => Q (.lst ((ds ++ [d]) ++ ys))) = fun ys => Q (.lst (ds ++ d :: ys)) := by
              funext ys
              rw [List.append_assoc]
              rfl
            rw [e2]
            exact h4
      · exact hc.elim
  · refine .inl ⟨by rw [show i = items.length by omega]; exact hstop, ?_⟩
    rw [List.drop_of_length_le (by omega)] at hc
    refine q L H' F' (.lst ds) g nL0 nFL ⟨L, acc, rfl, hL, r⟩ ?_
    have : Q (.lst (ds ++ [])) := hc
    rw [List.append_nil] at this
    exact this
theorem puo_comp {elt tg iter : Expr} {ifs : List Expr} {scope : Scope} {own : List (Str × Nat)} {wi : DI} {T : Tg} {tt : DB} {te : DT} (hc : X.calm = true) (hN : X.N.Nodup) (hi : PuI M W X tg iter wi) (ok : BlkOk X.N X.env.scope scope own)
    (hg : ∀ (s : Shared) (H : Hp) (C : Addr) (cl : List (Str × Addr)) (fp : List Addr), PuG M (X.blk s H scope (compEnvC scope cl C X.env) fp) tg T) (ht : ∀ (s : Shared) (H : Hp) (C : Addr) (cl : List (Str × Addr)) (fp : List Addr), PuTs M NoW (X.blk s H scope (compEnvC scope cl C X.env) fp) ifs tt)
    (he : ∀ (s : Shared) (H : Hp) (C : Addr) (cl : List (Str × Addr)) (fp : List Addr), PuE M NoW (X.blk s H scope (compEnvC scope cl C X.env) fp) elt te) (hT : ∀ i ∈ T.slots, i ∈ own.map (·.2) := by decide) (hs : ∀ x, foldedSetIterable iter X.env x = pure x := by intro _; rfl) :
    PuO M W X (.ListComp elt [⟨tg, iter, ifs, 0⟩] scope pos) (dComp wi T tt te (own.map (·.2))) := PEimp (pe_lc hc hN hi ok hg ht he hs) (comp_imp hT)
end
end PL
set_option Elab.async false
set_option linter.all false
set_option maxRecDepth 100000
namespace PL
open PySem PySem.Spec PyProof.Rows L2

section
variable {M : Am} {W : WX} {X : Cx} {pos : Pos} {st : Stmt} {rest : List Stmt}

theorem SOk.grow {K : PySem.W.Frag} {mg : Str → Option Value} {F0 H0 F H F' H' : Hp} {σ : L2.St} {ρ : DEnv} (s : SOk K mg M F0 H0 F H σ ρ) (g : Gr M F H F' H') : SOk K mg M F0 H0 F' H' σ ρ := ⟨s.gr.trans g, s.env.grow g⟩

/-! ### blocks -/
def dNext : DS := fun N ρ => N.nx ρ
def dSeq (t u : DS) : DS := fun N ρ => t { N with nx := u N } ρ
theorem pus_nil : PuSs M W X [] dNext := PSsimp pss_nil fun D σ H ⟨F0, H0, F, ρ, N, k, ht, q, _⟩ => q σ H F ρ (.refl F) k ht
theorem seq_imp {t u : DS} (D : Ends) (σ : L2.St) (H : Hp) (h : tS M W X (dSeq t u) D σ H) : tSeq (tS M W X t) (tS M W X u) D σ H := by
  obtain ⟨F0, H0, F, ρ, N, k, ht, q1, q2, q3, q4, q5⟩ := h
  refine ⟨F0, H0, F, ρ, _, k, ht, fun σ' H' F' ρ' s k' hu => ?_, q2, q3, q4, q5⟩
  exact ⟨F0, H0, F', ρ', N, k', hu, fun a b c d s' => q1 a b c d (s.trans s'), fun a b c d s' => q2 a b c d (s.trans s'), fun a b c d s' => q3 a b c d (s.trans s'), q4, q5⟩
theorem pus_cons {t u : DS} (h1 : PuS M W X st t) (h2 : PuSs M W X rest u) : PuSs M W X (st :: rest) (dSeq t u) := PSsimp (pss_cons h1 h2) seq_imp
theorem pus_one {t : DS} (h : PuS M W X st t) : PuSs M W X [st] t := pss_one h
theorem pu_pass : PuS M W X (.Pass pos) dNext := PSimp ps_pass fun D σ H ⟨F0, H0, F, ρ, N, k, ht, q, _⟩ => q σ H F ρ (.refl F) k ht
def dBreak : DS := fun N ρ => N.bk ρ
def dCont : DS := fun N ρ => N.ct ρ
theorem pu_break : PuS M W X (.Break pos) dBreak := PSimp ps_break fun D σ H ⟨F0, H0, F, ρ, N, k, ht, _, q, _⟩ => q σ H F ρ (.refl F) k ht
theorem pu_continue : PuS M W X (.Continue pos) dCont := PSimp ps_continue fun D σ H ⟨F0, H0, F, ρ, N, k, ht, _, _, q, _⟩ => q σ H F ρ (.refl F) k ht
def dNever : DS := fun _ _ => False
theorem pu_never : PuS M W X st dNever := PSimp ps_never fun D σ H ⟨F0, H0, F, ρ, N, k, ht, _⟩ => ht
def dRet (t : DT) : DS := fun N ρ => t ρ N.rt N.ex
theorem pu_ret {e : Expr} {t : DT} (h : PuE M W X e t) : PuS M W X (.Return (some e) pos) (dRet t) := PSimp (ps_ret h) fun D σ H ⟨F0, H0, F, ρ, N, k, ht, _, _, _, q4, q5⟩ =>
  ⟨H0, F, ρ, _, N.ex, k.env, ht, fun v H' F' d g r hq => q4 v H' F' d (k.gr.trans g) r hq, fun x c dx H' F' g => q5 x c dx σ H' F' (k.gr.trans g)⟩
def dRetN : DS := fun N _ => N.rt .non
theorem pu_retN : PuS M W X (.Return none pos) dRetN := PSimp ps_retN fun D σ H ⟨F0, H0, F, ρ, N, k, ht, _, _, _, q4, q5⟩ => q4 _ H F .non k.gr rfl ht
def dDrop (t : DT) : DS := fun N ρ => t ρ (fun _ => N.nx ρ) N.ex
theorem pu_expr {e : Expr} {t : DT} (h : PuE M W X e t) (hs : swapsWith e none pos.line X.env = pure false := by rfl) : PuS M W X (.Expr e pos) (dDrop t) := PSimp (ps_expr h hs) fun D σ H ⟨F0, H0, F, ρ, N, k, ht, q1, _, _, q4, q5⟩ =>
  ⟨H0, F, ρ, _, N.ex, k.env, ht, fun v H' F' d g r hq => q1 σ H' F' ρ g.sub (k.grow g) hq, fun x c dx H' F' g => q5 x c dx σ H' F' (k.gr.trans g)⟩
def dIf (c : DB) (t u : DS) : DS := fun N ρ => c ρ (fun b => if b = true then t N ρ else u N ρ) N.ex
theorem pu_if {c : Expr} {a b : List Stmt} {tc : DB} {t u : DS} (hc : PuT M W X c tc) (ha : PuSs M W X a t) (hb : PuSs M W X b u) : PuS M W X (.If c a b pos) (dIf tc t u) := PSimp (ps_if hc ha hb) fun D σ H ⟨F0, H0, F, ρ, N, k, ht, q1, q2, q3, q4, q5⟩ => by
  refine ⟨H0, F, ρ, _, N.ex, k.env, ht, fun b H1 F1 g hq => ?_, fun x c dx H' F' g => q5 x c dx σ H' F' (k.gr.trans g)⟩
  have k1 := k.grow g
  cases b with
  | true =>
    rw [if_pos rfl] at hq
    refine iteT ?_
    exact ⟨F0, H0, F1, ρ, N, k1, hq, fun a b c d s => q1 a b c d (g.sub.trans s), fun a b c d s => q2 a b c d (g.sub.trans s), fun a b c d s => q3 a b c d (g.sub.trans s), q4, q5⟩
  | false =>
    rw [if_neg (by decide)] at hq
    refine iteF ?_
    exact ⟨F0, H0, F1, ρ, N, k1, hq, fun a b c d s => q1 a b c d (g.sub.trans s), fun a b c d s => q2 a b c d (g.sub.trans s), fun a b c d s => q3 a b c d (g.sub.trans s), q4, q5⟩

/-! ### assignments -/
def dAsg (T : Tg) (t : DT) : DS := fun N ρ => t ρ (fun d => match asg T d ρ with | some ρ' => N.nx ρ' | none => False) N.ex
theorem asg_imp {t : DT} {T : Tg} (D : Ends) (σ : L2.St) (H : Hp) (h : tS M W X (dAsg T t) D σ H) : tAsg (tE M W X t) (tG M X T) D σ H := by
  obtain ⟨F0, H0, F, ρ, N, k, ht, q1, _, _, q4, q5⟩ := h
  refine ⟨H0, F, ρ, _, N.ex, k.env, ht, fun v H' F' d g r hq => ?_, fun x c dx H' F' g => q5 x c dx σ H' F' (k.gr.trans g)⟩
  split at hq
  · rename_i ρ' ea
    exact ⟨H0, F', ρ, ρ', d, k.env.grow g, r, ea, fun σ' _ k' => q1 σ' H' F' ρ' g.sub ⟨k.gr.trans g, k'⟩ hq⟩
  · exact hq.elim
theorem pu_asg {tg e : Expr} {t : DT} {T : Tg} (he : PuE M W X e t) (hg : PuG M X tg T) (hs : swapsWithSole [tg] e pos.line X.env = pure false := by rfl) (hw : swappedStores [tg] e X.env = pure none := by rfl)
    (h1 : (assignEach [tg] X.env).map (·.2) = [assign tg X.env] := by rfl) : PuS M W X (.Assign [tg] e pos) (dAsg T t) := PSimp (ps_asg he hg hs hw h1) asg_imp
theorem asgName_imp {t : DT} {i : Nat} (D : Ends) (σ : L2.St) (H : Hp) (h : tS M W X (dAsg (.name i) t) D σ H) : tAsg (tE M W X t) (gName i) D σ H := by
  obtain ⟨F0, H0, F, ρ, N, k, ht, q1, _, _, q4, q5⟩ := h
  refine ⟨H0, F, ρ, _, N.ex, k.env, ht, fun v H' F' d g r hq => ?_, fun x c dx H' F' g => q5 x c dx σ H' F' (k.gr.trans g)⟩
  exact q1 _ H' F' _ g.sub ⟨k.gr.trans g, (k.env.grow g).set i r⟩ hq
theorem pu_set {i : Nat} {e tg : Expr} {t : DT} (h : ∀ te, PE X e te → PS X (.Assign [tg] e pos) (tAsg te (gName i))) (he : PuE M W X e t) : PuS M W X (.Assign [tg] e pos) (dAsg (.name i) t) := PSimp (h _ he) asgName_imp
/-- a name is to hold a thing of one's own -/
def dOwn (i : Nat) (t : DT) : DS := fun N ρ => t ρ (fun d => N.nx (ρ.set i (some (.own d)))) N.ex
theorem EOk.setO {K : PySem.W.Frag} {mg : Str → Option Value} {H0 F H F' H' : Hp} {σ : L2.St} {ρ : DEnv} (k : EOk K mg M H0 F H σ ρ) (g : Gr M F H F' H') (i : Nat) {d : D} {a : Addr} (n : H a = none) (nF : F' a = none) (n0 : H0 a = none) (r : ORep K mg M F' H' d (.ref a)) : EOk K mg M H0 F' H' (σ.set i (some (.ref a))) (ρ.set i (some (.own d))) := by
  have k' := k.grow g
  have at_ : ∀ (j : Nat) c, (ρ.set i (some (.own d)))[j]? = some (some c) → (j = i ∧ c = .own d ∧ i < ρ.length) ∨ (j ≠ i ∧ ρ[j]? = some (some c)) := fun j c h => by
    by_cases z : i = j
    · subst z
      by_cases hl : i < ρ.length
      · rw [List.getElem?_set_self hl] at h; cases h; exact .inl ⟨rfl, rfl, hl⟩
      · rw [List.getElem?_eq_none (by simpa using hl)] at h; cases h
    · rw [List.getElem?_set_ne z] at h; exact .inr ⟨fun q => z q.symm, h⟩
  have na : ∀ (j : Nat) e b, ρ[j]? = some (some (.own e)) → σ[j]? = some (some (.ref b)) → b ≠ a := fun j e b h1 h2 z => by
    subst z
    obtain ⟨v, e2, r⟩ := k.slot j _ h1
    rw [h2] at e2; cases e2
    obtain ⟨c, u, e3, q', _⟩ := ORep.addr (show ORep K mg M F H e (.ref b) from r)
    cases e3
    rw [n] at q'; cases q'
  refine ⟨k'.inn, k'.off, k'.inv, by simp [k.len], fun j c e => ?_, fun j e b h1 h2 => ?_, fun j l e e' b h1 h2 h3 h4 => ?_⟩
  · rcases at_ j c e with ⟨rfl, rfl, hl⟩ | ⟨ne, h⟩
    · exact ⟨.ref a, by rw [List.getElem?_set_self (by rw [← k.len]; exact hl)], r⟩
    · rw [List.getElem?_set_ne (Ne.symm ne)]
      exact k'.slot j c h
  · rcases at_ j _ h1 with ⟨rfl, e1, hl⟩ | ⟨ne, h⟩
    · rw [List.getElem?_set_self (by rw [← k.len]; exact hl)] at h2
      cases h2
      exact ⟨nF, fun z => M.tr H a k.inv z n, n0⟩
    · rw [List.getElem?_set_ne (Ne.symm ne)] at h2
      exact k'.own j e b h h2
  · rcases at_ j _ h1 with ⟨rfl, e1, hl⟩ | ⟨ne, h⟩
    · rcases at_ l _ h2 with ⟨rfl, _, _⟩ | ⟨ne', h'⟩
      · rfl
      · rw [List.getElem?_set_self (by rw [← k.len]; exact hl)] at h3
        cases h3
        rw [List.getElem?_set_ne (Ne.symm ne')] at h4
        exact absurd rfl (na l e' _ h' h4)
    · rcases at_ l _ h2 with ⟨rfl, _, hl⟩ | ⟨ne', h'⟩
      · rw [List.getElem?_set_self (by rw [← k.len]; exact hl)] at h4
        cases h4
        rw [List.getElem?_set_ne (Ne.symm ne)] at h3
        exact absurd rfl (na j e _ h h3)
      · rw [List.getElem?_set_ne (Ne.symm ne)] at h3
        rw [List.getElem?_set_ne (Ne.symm ne')] at h4
        exact k'.dis j l e e' b h h' h3 h4
theorem own_imp {t : DT} {i : Nat} (D : Ends) (σ : L2.St) (H : Hp) (h : tS M W X (dOwn i t) D σ H) : tAsg (tO M W X t) (gName i) D σ H := by
  obtain ⟨F0, H0, F, ρ, N, k, ht, q1, _, _, q4, q5⟩ := h
  refine ⟨H0, F, ρ, _, N.ex, k.env, ht, fun a H' F' d g n nF r hq => ?_, fun x c dx H' F' g => q5 x c dx σ H' F' (k.gr.trans g)⟩
  exact q1 _ H' F' _ g.sub ⟨k.gr.trans g, k.env.setO g i n nF (k.gr.free k.gr.inv n) r⟩ hq
theorem pu_own {i : Nat} {e tg : Expr} {t : DT} (h : ∀ te, PE X e te → PS X (.Assign [tg] e pos) (tAsg te (gName i))) (he : PuO M W X e t) : PuS M W X (.Assign [tg] e pos) (dOwn i t) := PSimp (h _ he) own_imp
/-- y = [..] on one line: the list is one's own -/
theorem pu_ownLc {i : Nat} {y : Str} {py : Pos} {elt tg iter : Expr} {ifs : List Expr} {scope : Scope} {own : List (Str × Nat)} {spos : Pos} {wi : DI} {T : Tg} {tt : DB} {te : DT} (hc : X.calm = true) (hN : X.N.Nodup) (hy : X.N[i]? = some y) (hyl : X.env.scope.names.lookup y = some .local)
    (hsw : swapsWith (.ListComp elt [⟨tg, iter, ifs, 0⟩] scope pos) (some (.Name y py)) spos.line X.env = pure true) (hi : PuI M W X tg iter wi) (ok : BlkOk X.N X.env.scope scope own)
    (hg : ∀ (s : Shared) (H : Hp) (C : Addr) (cl : List (Str × Addr)) (fp : List Addr), PuG M (X.blk s H scope (compEnvC scope cl C X.env) fp) tg T) (ht : ∀ (s : Shared) (H : Hp) (C : Addr) (cl : List (Str × Addr)) (fp : List Addr), PuTs M NoW (X.blk s H scope (compEnvC scope cl C X.env) fp) ifs tt)
    (he : ∀ (s : Shared) (H : Hp) (C : Addr) (cl : List (Str × Addr)) (fp : List Addr), PuE M NoW (X.blk s H scope (compEnvC scope cl C X.env) fp) elt te) (hT : ∀ i ∈ T.slots, i ∈ own.map (·.2) := by decide) (hs : ∀ x, foldedSetIterable iter X.env x = pure x := by intro _; rfl) :
    PuS M W X (.Assign [.Name y py] (.ListComp elt [⟨tg, iter, ifs, 0⟩] scope pos) spos) (dOwn i (dComp wi T tt te (own.map (·.2)))) :=
  PSimp (ps_setLc hc hN hy hyl hsw hi ok hg ht he hs) fun D σ H h => by
    have := own_imp D σ H h
    exact comp_imp hT σ H _ this
/-- a thing of one's own is given away: from here on it stays as it is -/
def dFz (i : Nat) (t : DS) : DS := fun N ρ => match ρ[i]? with | some (some (.own d)) => t N (ρ.set i (some (.val d))) | _ => False
theorem pu_fzS {i : Nat} {t : DS} (h : PuS M W X st t) : PuS M W X st (dFz i t) := PSimp (ps_fzl h) fun D σ H ⟨F0, H0, F, ρ, N, k, ht, q1, q2, q3, q4, q5⟩ => by
  unfold dFz at ht
  split at ht
  · rename_i d e1
    obtain ⟨v, e2, r⟩ := k.env.slot i _ e1
    obtain ⟨a, o, rfl, ho, _⟩ := ORep.addr (show ORep X.K X.mg M F H d v from r)
    obtain ⟨nF, nf, n0⟩ := k.env.own i d a e1 e2
    refine freezeO (QV := fun H => tS M W X t D σ H) k.gr n0 nF nf r fun F' H' g s ag rr => ?_
    refine ⟨F0, H0, F', _, N, ⟨g, ?_⟩, ht, fun a b c d s' => q1 a b c d (s.trans s'), fun a b c d s' => q2 a b c d (s.trans s'), fun a b c d s' => q3 a b c d (s.trans s'), q4, q5⟩
    have old : ∀ (j : Nat) e, (ρ.set i (some (.val d)))[j]? = some (some (.own e)) → j ≠ i ∧ ρ[j]? = some (some (.own e)) := fun j e h => by
      by_cases z : i = j
      · subst z
        by_cases hl : i < ρ.length
        · rw [List.getElem?_set_self hl] at h; cases h
        · rw [List.getElem?_eq_none (by simpa using hl)] at h; cases h
      · rw [List.getElem?_set_ne z] at h; exact ⟨fun q => z q.symm, h⟩
    have nb : ∀ (j : Nat) e b, j ≠ i → ρ[j]? = some (some (.own e)) → σ[j]? = some (some (.ref b)) → b ≠ a := fun j e b ne h1 h2 z => by
      subst z
      exact ne (k.env.dis j i e d b h1 e1 h2 e2)
    refine ⟨g.inn, g.off, g.inv, by simp [k.env.len], fun j c e => ?_, fun j e b h1 h2 => ?_, fun j l e e' b h1 h2 h3 h4 => ?_⟩
    · by_cases z : i = j
      · subst z
        have hl : i < ρ.length := (List.getElem?_eq_some_iff.mp e1).1
        rw [List.getElem?_set_self hl] at e
        cases e
        exact ⟨.ref a, e2, rr⟩
      · rw [List.getElem?_set_ne z] at e
        obtain ⟨v, e3, r3⟩ := k.env.slot j c e
        refine ⟨v, e3, ?_⟩
        cases c with
        | val d' => exact Rep.mono s d' r3
        | own d' =>
          obtain ⟨b, o', rfl, _, _⟩ := ORep.addr (show ORep X.K X.mg M F H d' v from r3)
          exact ORep.mono r3 s (ag b (nb j d' b (fun q => z q.symm) e e3)).2
    · obtain ⟨ne, h⟩ := old j e h1
      obtain ⟨x1, x2, x3⟩ := k.env.own j e b h h2
      exact ⟨by rw [(ag b (nb j e b ne h h2)).1]; exact x1, x2, x3⟩
    · obtain ⟨ne, h⟩ := old j e h1
      obtain ⟨ne', h'⟩ := old l e' h2
      exact k.env.dis j l e e' b h h' h3 h4
  · exact ht.elim
/-- x op= e -/
def dAug (i : Nat) (f : D → D → Ret) (t : DT) : DS := fun N ρ => match ρ[i]? with
  | some (some (.val x)) => t ρ (fun y => (f x y).to fun z => N.nx (ρ.set i (some (.val z)))) N.ex
  | _ => False
theorem pu_aug {i : Nat} {x : Str} {e : Expr} {op : Operator} {f : D → D → Ret} {t : DT} {pos' : Pos} (hN : X.N.Nodup) (hi : X.N[i]? = some x) (hx : Loc X.env.scope x) (he : PuB M W X e t) (ho : PIp X op (rD M X f)) (hf : X.fn x = true ∨ X.env.scope.names.lookup x = some .local := by first | exact .inl rfl | exact .inr rfl | assumption) :
    PuS M W X (.AugAssign (.Name x pos') op e pos) (dAug i f t) := PSimp (ps_aug hN hi hx he ho hf) fun D σ H ⟨F0, H0, F, ρ, N, k, ht, q1, _, _, q4, q5⟩ => by
  unfold dAug at ht
  split at ht
  · rename_i d e1
    obtain ⟨v, e2, r⟩ := k.env.slot i _ e1
    refine ⟨v, e2, H0, F, ρ, _, N.ex, k.env, ht, fun y H1 F1 dy g1 r1 h1 => ?_, fun x c dx H' F' g => q5 x c dx σ H' F' (k.gr.trans g)⟩
    obtain ⟨dz, ez, h1⟩ := Ret.of h1
    exact ⟨F1, d, dy, dz, g1.self, (Rep.mono g1.sub _ r).arep g1.inn g1.off, r1, ez, fun z H2 F2 g2 r2 => q1 _ H2 F2 _ (g1.trans g2).sub ⟨k.gr.trans (g1.trans g2), (k.env.grow (g1.trans g2)).set i r2⟩ h1⟩
  · exact ht.elim

/-! ### loops -/
def forK (T : Tg) (tb : DS) (N : Nds) : List D → DEnv → Prop
  | [], ρ => N.nx ρ
  | d :: ds, ρ => match asg T d ρ with
    | some ρ1 => tb { N with nx := forK T tb N ds, ct := forK T tb N ds, bk := N.nx } ρ1
    | none => False
def dFor (wi : DI) (T : Tg) (tb : DS) : DS := fun N ρ => wi ρ (fun items => forK T tb N items ρ) N.ex
theorem for_imp {wi : DI} {T : Tg} {tb : DS} (D : Ends) (σ : L2.St) (H : Hp) (h : tS M W X (dFor wi T tb) D σ H) : tFor (tI M W X wi) (tG M X T) (tS M W X tb) D σ H := by
  obtain ⟨F0, H0, F, ρ, N, k, ht, q1, q2, q3, q4, q5⟩ := h
  refine ⟨H0, F, ρ, _, N.ex, k.env, ht, fun J H1 F1 items g1 J1 h1 => ?_, fun x c dx H' F' g => q5 x c dx σ H' F' (k.gr.trans g)⟩
  refine ⟨fun i m σ' H' => ∃ F' ρ', Sub F1 F' ∧ SOk X.K X.mg M F0 H0 F' H' σ' ρ' ∧ i + m = items.length ∧ forK T tb N (items.drop i) ρ', ⟨items.length, F1, ρ, .refl _, k.grow g1, by omega, h1⟩, ?_⟩
  rintro i m σ' H' ⟨F', ρ', s, k', hm, hf⟩
  obtain ⟨hgo, hstop⟩ := J1 F' H' k'.gr.self s
  by_cases hi : i < items.length
  · rw [dropget hi] at hf
    obtain ⟨go, yld⟩ := hgo i items[i] (List.getElem?_eq_getElem hi)
    refine .inr ⟨go, fun σ'' H'' => ∃ F'' ρ'', Sub F1 F'' ∧ SOk X.K X.mg M F0 H0 F'' H'' σ'' ρ'' ∧ forK T tb N (items.drop (i + 1)) ρ'', ?_, fun x H2 y => ?_⟩
    · rintro σ'' H'' ⟨F'', ρ'', a1, a2, a3⟩
      exact ⟨m - 1, by omega, F'', ρ'', a1, a2, by omega, a3⟩
    · obtain ⟨F2, g2, r2⟩ := yld x H2 y
      unfold forK at hf
      split at hf
      · rename_i ρ1 ea
        have k2 := k'.grow g2
        refine ⟨H0, F2, ρ', ρ1, _, k2.env, r2, ea, fun σ3 _ k3 => ?_⟩
        refine ⟨F0, H0, F2, ρ1, _, ⟨k2.gr, k3⟩, hf, fun σ4 H4 F4 ρ4 s4 k4 h4 => ?_, fun σ4 H4 F4 ρ4 s4 k4 h4 => ?_, fun σ4 H4 F4 ρ4 s4 k4 h4 => ?_, q4, q5⟩
        · exact ⟨F4, ρ4, (s.trans g2.sub).trans s4, k4, h4⟩
        · exact q1 σ4 H4 F4 ρ4 (((g1.sub.trans s).trans g2.sub).trans s4) k4 h4
        · exact ⟨F4, ρ4, (s.trans g2.sub).trans s4, k4, h4⟩
      · exact hf.elim
  · rw [List.drop_of_length_le (by omega)] at hf
    exact .inl ⟨by rw [show i = items.length by omega]; exact hstop, q1 σ' H' F' ρ' (g1.sub.trans s) k' hf⟩
theorem pu_for {tg iter : Expr} {body : List Stmt} {wi : DI} {T : Tg} {tb : DS} (hp : PassesOwn (model X.prog X.w) X.A X.env X.xe) (hc : X.calm = true) (hi : PuI M W X tg iter wi) (hg : PuG M X tg T) (hb : PuSs M W X body tb)
    (hs : ∀ x, foldedSetIterable iter X.env x = pure x := by intro _; rfl) : PuS M W X (.For tg iter body [] pos) (dFor wi T tb) := PSimp (ps_for hp hc hi hg hb hs) for_imp
def whileK (tc : DB) (tb : DS) (N : Nds) : Nat → DEnv → Prop
  | 0, _ => False
  | n + 1, ρ => tc ρ (fun b => if b = true then tb { N with nx := whileK tc tb N n, ct := whileK tc tb N n, bk := N.nx } ρ else N.nx ρ) N.ex
def dWhile (tc : DB) (tb : DS) : DS := fun N ρ => ∃ n, whileK tc tb N n ρ
theorem while_imp {tc : DB} {tb : DS} (D : Ends) (σ : L2.St) (H : Hp) (h : tS M W X (dWhile tc tb) D σ H) : tWhile (tT M W X tc) (tS M W X tb) D σ H := by
  obtain ⟨F0, H0, F, ρ, N, k, ⟨n, ht⟩, q1, q2, q3, q4, q5⟩ := h
  refine ⟨fun m σ' H' => ∃ F' ρ', Sub F F' ∧ SOk X.K X.mg M F0 H0 F' H' σ' ρ' ∧ whileK tc tb N m ρ', ⟨n, F, ρ, .refl _, k, ht⟩, ?_⟩
  rintro m σ' H' ⟨F', ρ', s, k', hw⟩
  cases m with
  | zero => exact hw.elim
  | succ m =>
    refine ⟨H0, F', ρ', _, N.ex, k'.env, hw, fun b H1 F1 g1 h1 => ?_, fun x c dx H' F' g => q5 x c dx σ' H' F' (k'.gr.trans g)⟩
    have k1 := k'.grow g1
    have s1 := s.trans g1.sub
    cases b with
    | false =>
      rw [if_neg (by decide)] at h1
      refine iteF ?_
      exact q1 σ' H1 F1 ρ' s1 k1 h1
    | true =>
      rw [if_pos rfl] at h1
      refine iteT ?_
      refine ⟨fun σ'' H'' => ∃ F'' ρ'', Sub F F'' ∧ SOk X.K X.mg M F0 H0 F'' H'' σ'' ρ'' ∧ whileK tc tb N m ρ'', ?_, F0, H0, F1, ρ', _, k1, h1, fun σ4 H4 F4 ρ4 s4 k4 h4 => ?_, fun σ4 H4 F4 ρ4 s4 k4 h4 => ?_, fun σ4 H4 F4 ρ4 s4 k4 h4 => ?_, q4, q5⟩
      · rintro σ'' H'' ⟨F'', ρ'', a1, a2, a3⟩
        exact ⟨m, Nat.lt_succ_self _, F'', ρ'', a1, a2, a3⟩
      · exact ⟨F4, ρ4, s1.trans s4, k4, h4⟩
      · exact q1 σ4 H4 F4 ρ4 (s1.trans s4) k4 h4
      · exact ⟨F4, ρ4, s1.trans s4, k4, h4⟩
theorem pu_while {c : Expr} {body : List Stmt} {tc : DB} {tb : DS} (hp : PassesOwn (model X.prog X.w) X.A X.env X.xe) (hc : PuT M W X c tc) (hb : PuSs M W X body tb) : PuS M W X (.While c body [] pos) (dWhile tc tb) := PSimp (ps_while hp hc hb) while_imp
end
end PL
set_option Elab.async false
set_option linter.all false
set_option maxRecDepth 100000
namespace PL
open PySem PySem.Spec PyProof.Rows L2

/-! ### room, with no text of a container under way -/
structure RoomG (k : Nat) (A : Around) : Prop where
  r : Room k A
  g : A.guards = some []
theorem RoomG.mono {j k : Nat} {A : Around} (z : RoomG k A) (h : j ≤ k) : RoomG j A := ⟨z.r.mono h, z.g⟩
theorem RoomG.deeper {k : Nat} {A : Around} (z : RoomG (k + 1) A) (env : PySem.Env) : RoomG k (A.deeper env) := ⟨z.r.deeper env, z.g⟩
theorem RoomG.make {k : Nat} {A : Around} (z : RoomG (k + 1) A) (C : Addr) (us : List Value) : RoomG k (A.under (.builtin "type.__call__" ⟨.ref C :: us, []⟩)) := by
  refine ⟨z.r.make C us [], ?_⟩
  have h : (Code.builtin "type.__call__" ⟨.ref C :: us, []⟩).guards = [] := by
    first | rfl | simp [Code.guards, Code.isGuard, guardIds]
  have h2 : (A.under (.builtin "type.__call__" ⟨.ref C :: us, []⟩)).guards = pushGuards (Code.builtin "type.__call__" ⟨.ref C :: us, []⟩).guards A.guards := by
    first | rfl | simp [Around.under]
  rw [h2, h, z.g]
  first | rfl | simp [pushGuards_eq]
/-- a promise of a def's, called where no text of a container is under way -/
structure FnG (P : Program) (w : World) (K : PySem.W.Frag) (mg : Str → Option Value) (base : Heap) (k : Nat) (f : Addr) (fd : FuncData) (ps : List Str) (sp : Sp) : Prop where
  n : ∀ vs H Q E, sp vs H Q E → vs.length = ps.length
  go : ∀ A outer s H ar us vs Q E, RoomG k A → Env0 P w K mg base A outer s H → BindsTo s fd ar (ps.zip us) → Vals vs us → sp vs H Q E → codeAny (model P w) A (.call (.ref f) ar) (CR (L2.CX P w) outer P w H s Q E) s
section
variable {P : Program} {w : World} {K : PySem.W.Frag} {mg : Str → Option Value} {base : Heap} {k : Nat} {f : Addr} {fd : FuncData} {ps : List Str} {sp : Sp}
theorem FnG.mono {j : Nat} (z : FnG P w K mg base j f fd ps sp) (h : j ≤ k) : FnG P w K mg base k f fd ps sp := ⟨z.n, fun A o s H ar us vs Q E hr => z.go A o s H ar us vs Q E (hr.mono h)⟩
theorem FnG.imp {sp' : Sp} (z : FnG P w K mg base k f fd ps sp) (h : ∀ vs H Q E, sp' vs H Q E → sp vs H Q E) : FnG P w K mg base k f fd ps sp' :=
  ⟨fun vs H Q E q => z.n vs H Q E (h _ _ _ _ q), fun A o s H ar us vs Q E hr e b v q => z.go A o s H ar us vs Q E hr e b v (h _ _ _ _ q)⟩
/-- a def by its body -/
theorem fng_of {x qual : Str} {st : Stmt} {N : List Str} (D : Fun K x qual st f fd) (S : FnScope N ps (defScope st)) (hn : ∀ vs H Q E, sp vs H Q E → vs.length = ps.length)
    (body : ∀ (cdv : Value) A outer s H vs Q E, RoomG k (A.deeper (envOfC qual (defScope st) s.heap.objs.size f cdv)) → sp vs H Q E →
      ∃ t, PSs (cxOf (L2.CX P w) P w K mg base N qual (defScope st) f cdv A outer s H E) (defBody st) t ∧ t { nx := fun _ H2 => Q .non H2, rt := Q } (L2.start N vs) H) : FnG P w K mg base (k + 1) f fd ps sp := by
  obtain ⟨oc, od, kV, doc, pm, an, cdv, ct, osl, rfl, lk, hcd⟩ := D.ex
  refine ⟨hn, ?_⟩
  intro A outer s H ar us vs Q E hr e0 hb rv q
  have KX : K.In s.heap := PySem.W.Frag.In.keeps e0.mod.kin (fun b o e => (e0.bs b o e).1)
  have nl : s.heap.NoLimit := Heap.NoLimit.keeps e0.mod.nolimit (fun b o e => (e0.bs b o e).1)
  have kinds : ∀ y ∈ ps.zip us, (defScope st).names.lookup y.1 = some .local ∨ ((defScope st).names.lookup y.1 = some .cell ∧ ((cellsFrom (s.heap.objs.size + 1) (defScope st).names []).lookup y.1).isSome = true) := by
    rintro ⟨n, v⟩ hy
    cases S.par n (List.of_mem_zip hy).1 with
    | inl z => exact Or.inl z
    | inr z => exact Or.inr ⟨z, PySem.W.cellsFrom_some _ _ _ (Or.inl z)⟩
  refine codeAny_call_function hr.r.depth (KX _ _ lk) rfl S.co S.gen rfl (PySem.W.codeRec_of KX hcd) (hb _ _ _ _ (wpAny_newFunctionEnv_cells S.kind kinds fun env he s1 ic => ?_))
  subst he
  obtain ⟨t, ht, hq⟩ := body cdv A outer s H vs Q E (hr.deeper _) q
  refine ⟨Heap.NoLimit.keeps nl ic.toInCall.keep, codeAny_func (wpAny_mono (ht.run [] s1 _ H _ (inv_start S hr.r.hd e0 (hn _ _ _ _ q) rv ic) hq) ?_ (fun e s2 z => z))⟩
  rintro (_ | _ | _ | u) s2 z
  · obtain ⟨σ2, H2, J, q2⟩ := z
    exact ⟨.non, H2, J.os, J.bare, J.base, J.hok, rfl, q2⟩
  · obtain ⟨_, _, _, q2⟩ := z
    exact q2.elim
  · obtain ⟨_, _, _, q2⟩ := z
    exact q2.elim
  · obtain ⟨v, σ2, H2, J, rv2, q2⟩ := z
    exact ⟨v, H2, J.os, J.bare, J.base, J.hok, rv2, q2⟩
end
section
variable {X : Cx} {k : Nat} {f C : Addr} {fd : FuncData} {ps : List Str} {sp : Sp} {E : L2.St → XK} {x : Str} {p pos : Pos} {e : Expr} {es : List Expr} {t : TA}
/-- the def runs -/
theorem g_run {pins : List (Addr × Obj)} {σ : L2.St} {H : Hp} {s : Shared} {Q : VK} {us : List Value} {vs : List V} (z : FnG X.prog X.w X.K X.mg X.base k f fd ps sp) (hr : RoomG k X.A) (hb : Binds X.K fd ps []) (hx : PassesAt (L2.CX X.prog X.w) X σ (E σ))
    (I : Inv X pins σ H s) (r : Vals vs us) (h : sp vs H Q (E σ)) : wpAny (model X.prog X.w) X.A (call (.ref f) us) (EP X pins σ Q) X.xe s := by
  have b := hb s us I.kIn (by rw [List.append_nil, ← r.length]; exact z.n _ _ _ _ h)
  rw [List.append_nil] at b
  refine wpAny_call (codeAny_mono (z.go X.A X.stack s H ⟨us, []⟩ us vs Q (E σ) hr I.env0 b r h) ?_)
  rintro (e2 | (_ | _ | _ | u)) s2 hq
  · exact hx pins H s e2 s2 I hq
  · exact hq.elim
  · exact hq.elim
  · exact hq.elim
  · exact I.after hq
theorem g_call (z : FnG X.prog X.w X.K X.mg X.base k f fd ps sp) (hr : RoomG k X.A) (hg : Gl X x) (hm : X.mg x = some (.ref f)) (hk : PySem.W.keepIn X.K (.ref f) = true) (hb : Binds X.K fd ps []) (hx : ∀ σ, PassesAt (L2.CX X.prog X.w) X σ (E σ))
    (ha : PA X (e :: es) t) (hdb : (x == ("__debug__" : Str)) = false) (he : starEach (e :: es) X.env = (false, eval e X.env) :: starEach es X.env) (hpl : (backTo pos (starEach es X.env)).any (·.1) = false) :
    PE X (.Call (.Name x p) (e :: es) [] pos) (tCallS sp E t) := by
  constructor
  intro pins s σ H Q I h
  exact wpAny_Call_Name_kw (ld_glob I hg hm (PySem.W.callWith_K (h₀ := X.base) I.ok.mod.kin hk (thn (ha.run pos pins s σ H _ I h) fun us s1 ⟨vs, H1, I1, r, q⟩ => ⟨I1.kIn, g_run z hr hb (hx σ) I1 r q⟩) he hpl) hdb)
/-- a thing is made -/
theorem g_make {E : XK} (M : Mk X.K C f) (z : FnG X.prog X.w X.K X.mg X.base k f fd ps sp) (hr : RoomG (k + 1) X.A) (hg : Gl X x) (hm : X.mg x = some (.ref C)) (hb : Binds X.K fd ps []) (hx : Passes (L2.CX X.prog X.w) X E)
    (ha : PA X (e :: es) t) (hdb : (x == ("__debug__" : Str)) = false) (he : starEach (e :: es) X.env = (false, eval e X.env) :: starEach es X.env) (hpl : (backTo pos (starEach es X.env)).any (·.1) = false) :
    PE X (.Call (.Name x p) (e :: es) [] pos) (tMake C sp [] E t) := by
  constructor
  intro pins s σ H Q I h
  refine wpAny_Call_Name_kw (ld_glob I hg hm (PySem.W.callWith_K (h₀ := X.base) I.ok.mod.kin M.kp (thn (ha.run pos pins s σ H _ I h) fun us s1 ⟨vs, H1, I1, r, q⟩ => ⟨I1.kIn, ?_⟩) he hpl) hdb)
  have q2 := q (s1.heap.objs.size + 1) s1.heap.objs.size (I1.hok.fresh (Nat.le_succ _)) (I1.hok.fresh Nat.le.refl) (Nat.ne_of_lt (Nat.lt_succ_self _))
  rw [List.append_nil] at q2
  have I2 := Inv.made (C := C) I1
  have r2 : Vals (V.ref (s1.heap.objs.size + 1) :: vs) (Value.ref (s1.heap.objs.size + 1) :: us) := .cons rfl r
  have b := hb _ (Value.ref (s1.heap.objs.size + 1) :: us) I2.kIn (by rw [List.append_nil, ← r2.length]; exact z.n _ _ _ _ q2)
  rw [List.append_nil] at b
  refine wpAny_call (make_map (f := f) I1.kIn M.makes M.init (beq_iff_eq.mp M.fn) (codeAny_mono (z.go _ X.stack _ _ ⟨Value.ref (s1.heap.objs.size + 1) :: us, []⟩ _ _ _ E (hr.make C us) (I2.env0.make C us []) b r2 q2) ?_))
  rintro (e2 | (_ | _ | _ | u)) s2 hq
  · exact hx pins σ _ _ e2 s2 I2 hq
  · exact hq.elim
  · exact hq.elim
  · exact hq.elim
  · obtain ⟨v, H3, I3, rv, ev, q3⟩ := I2.after hq
    subst ev
    exact ⟨rv, ⟨V.ref (s1.heap.objs.size + 1), H3, I3, rfl, q3⟩⟩
end

/-! ### what runs beside: the hand of a law -/
/-- the hand: the list at M.hd, its cells at c -/
def HandAm (M : Am) : Prop := ∃ c : Addr, M.hd ≠ c ∧ (∀ a, M.fp a ↔ a = M.hd ∨ a = c) ∧ ∀ H : Hp, M.inv H ↔ ∃ (cells : List Int) (i r m n : Int), H M.hd = some (.lst [.ref c, .int i, .int r, .int m, .int n]) ∧ H c = some (.lst (cells.map V.int)) ∧ 0 ≤ i
structure AmOk (w : World) (M : Am) : Prop where
  h : M.hash = NestedKey.hash w
  hand : HandAm M

/-! ### defs -/
abbrev SpD := List D → (D → Prop) → (EX → Prop) → Prop
def spOf (K : PySem.W.Frag) (mg : Str → Option Value) (M : Am) (np : Nat) (sp : SpD) : Sp := fun vs H Q E => ∃ F ds QD ED, Gr M F H F H ∧ RepL K mg M F ds vs ∧ ds.length = np ∧ sp ds QD ED ∧
  (∀ v H' F' d, Gr M F H F' H' → Rep K mg M F' d v → QD d → Q v H') ∧ ∀ x c dx H' F', Gr M F H F' H' → XRep K mg M F' H' x c dx → ED x → E c dx H'
/-- the module's def x keeps the promise sp, at the level k -/
def Has (P : Program) (w : World) (K : PySem.W.Frag) (mg : Str → Option Value) (base : Heap) (k : Nat) (x : Str) (np : Nat) (sp : SpD) : Prop :=
  ∃ f fd ps, ps.length = np ∧ mg x = some (.ref f) ∧ PySem.W.keepIn K (.ref f) = true ∧ Binds K fd ps [] ∧ ∀ M : Am, AmOk w M → FnG P w K mg base k f fd ps (spOf K mg M np sp)
theorem Has.mono {P : Program} {w : World} {K : PySem.W.Frag} {mg : Str → Option Value} {base : Heap} {j k : Nat} {x : Str} {np : Nat} {sp : SpD} (h : Has P w K mg base j x np sp) (l : j ≤ k) : Has P w K mg base k x np sp := by
  obtain ⟨f, fd, ps, a, b, c, d, e⟩ := h
  exact ⟨f, fd, ps, a, b, c, d, fun M h => (e M h).mono l⟩
/-- a weaker promise -/
theorem Has.imp {P : Program} {w : World} {K : PySem.W.Frag} {mg : Str → Option Value} {base : Heap} {k : Nat} {x : Str} {np : Nat} {sp sp' : SpD} (h : Has P w K mg base k x np sp) (l : ∀ ds Q E, ds.length = np → sp' ds Q E → sp ds Q E) : Has P w K mg base k x np sp' := by
  obtain ⟨f, fd, ps, a, b, c, d, e⟩ := h
  exact ⟨f, fd, ps, a, b, c, d, fun M h => (e M h).imp fun vs H Q E ⟨F, ds, QD, ED, h1, h2, h3, h4, h5⟩ => ⟨F, ds, QD, ED, h1, h2, h3, l _ _ _ h3 h4, h5⟩⟩
/-- the slots at the entry -/
def startE (n : Nat) (ds : List D) : DEnv := ds.map (fun d => some (.val d)) ++ List.replicate (n - ds.length) none
def spBody (n : Nat) (t : DS) : SpD := fun ds Q E => t { nx := fun _ => Q .non, rt := Q, ex := E } (startE n ds)
theorem eok_start {K : PySem.W.Frag} {mg : Str → Option Value} {M : Am} {F H : Hp} {N : List Str} {ds : List D} {vs : List V} (g : Gr M F H F H) (r : RepL K mg M F ds vs) : EOk K mg M H F H (L2.start N vs) (startE N.length ds) := by
  have hl := r.length
  have noown : ∀ (i : Nat) d, (startE N.length ds)[i]? = some (some (.own d)) → False := fun i d h => by
    unfold startE at h
    by_cases z : i < ds.length
    · rw [List.getElem?_append_left (by simpa using z), List.getElem?_map] at h
      cases q : ds[i]? with
      | none => rw [q] at h; cases h
      | some d' => rw [q] at h; cases h
    · rw [List.getElem?_append_right (by simp; omega), List.getElem?_replicate] at h
      split at h <;> cases h
  refine ⟨g.inn, g.off, g.inv, ?_, fun i c h => ?_, fun i d a h => (noown i d h).elim, fun i j d e a h => (noown i d h).elim⟩
  · unfold startE L2.start
    simp only [List.length_append, List.length_map, List.length_replicate, hl]
  · unfold startE at h
    by_cases z : i < ds.length
    · rw [List.getElem?_append_left (by simpa using z), List.getElem?_map] at h
      cases q : ds[i]? with
      | none => rw [q] at h; cases h
      | some d' =>
        rw [q] at h; cases h
        obtain ⟨v, e1, r1⟩ := r.get q
        refine ⟨v, ?_, r1⟩
        unfold L2.start
        rw [List.getElem?_append_left (by rw [List.length_map, hl]; exact z), List.getElem?_map, e1]
        rfl
    · rw [List.getElem?_append_right (by simp; omega), List.getElem?_replicate] at h
      split at h <;> cases h
section
variable {P : Program} {w : World} {K : PySem.W.Frag} {mg : Str → Option Value} {base : Heap}
/-- the context of a def's body -/
abbrev bodyCx (P : Program) (w : World) (K : PySem.W.Frag) (mg : Str → Option Value) (base : Heap) (N : List Str) (qual : Str) (st : Stmt) (f : Addr) (cdv : Value) (A : Around) (outer : List PySem.Env) (s : Shared) (H : Hp) (E : XK) : Cx :=
  cxOf (L2.CX P w) P w K mg base N qual (defScope st) f cdv A outer s H E
abbrev bodyW (E : XK) : WX := fun c d _ H => E c d H
theorem fnok_of {x qual : Str} {st : Stmt} {f : Addr} {fd : FuncData} {N ps : List Str} {k : Nat} {t : DS} (M : Am) (F : Fun K x qual st f fd) (S : FnScope N ps (defScope st))
    (body : ∀ (cdv : Value) (A : Around) (outer : List PySem.Env) (s : Shared) (H : Hp) (E : XK), RoomG k (A.deeper (envOfC qual (defScope st) s.heap.objs.size f cdv)) →
      PuSs M (bodyW E) (bodyCx P w K mg base N qual st f cdv A outer s H E) (defBody st) t) : FnG P w K mg base (k + 1) f fd ps (spOf K mg M ps.length (spBody N.length t)) := by
  refine fng_of F S (fun vs H Q E ⟨F, ds, QD, ED, g, r, l, _⟩ => by rw [r.length, l]) fun cdv A outer s H vs Q E hr ⟨F, ds, QD, ED, g, r, l, h, q1, q2⟩ => ?_
  refine ⟨_, body cdv A outer s H E hr, ?_⟩
  refine ⟨F, H, F, startE N.length ds, _, ⟨g, eok_start g r⟩, h, fun σ' H' F' ρ' _ k' hq => q1 _ H' F' .non k'.gr rfl hq, fun _ _ _ _ _ _ z => z.elim, fun _ _ _ _ _ _ z => z.elim, fun v H' F' d g' r' hq => q1 v H' F' d g' r' hq, fun x c dx _ H' F' g' xr hq => q2 x c dx H' F' g' xr hq⟩
theorem has_of {x qual : Str} {st : Stmt} {f : Addr} {fd : FuncData} {N ps : List Str} {k : Nat} {t : DS} (F : Fun K x qual st f fd) (S : FnScope N ps (defScope st)) (gx : mg x = some (.ref f)) (b : Binds K fd ps [])
    (body : ∀ (M : Am) (_ : AmOk w M) (cdv : Value) (A : Around) (outer : List PySem.Env) (s : Shared) (H : Hp) (E : XK), RoomG k (A.deeper (envOfC qual (defScope st) s.heap.objs.size f cdv)) →
      PuSs M (bodyW E) (bodyCx P w K mg base N qual st f cdv A outer s H E) (defBody st) t) : Has P w K mg base (k + 1) x ps.length (spBody N.length t) :=
  ⟨f, fd, ps, rfl, gx, F.kp, b, fun M h => fnok_of M F S (body M h)⟩
theorem takes_body {N : List Str} {qual : Str} {st : Stmt} {f : Addr} {cdv : Value} {A : Around} {outer : List PySem.Env} {s : Shared} {H : Hp} {E : XK} : Takes (bodyCx P w K mg base N qual st f cdv A outer s H E) (bodyW E) := takes_of rfl rfl rfl rfl
theorem passes_body {N : List Str} {qual : Str} {st : Stmt} {f : Addr} {cdv : Value} {A : Around} {outer : List PySem.Env} {s : Shared} {H : Hp} {E : XK} :
    PassesOwn (model (bodyCx P w K mg base N qual st f cdv A outer s H E).prog (bodyCx P w K mg base N qual st f cdv A outer s H E).w) (bodyCx P w K mg base N qual st f cdv A outer s H E).A (bodyCx P w K mg base N qual st f cdv A outer s H E).env (bodyCx P w K mg base N qual st f cdv A outer s H E).xe := passes_of rfl
end
section
variable {M : Am} {W : WX} {X : Cx} {pos : Pos}
/-- f(..) by its promise -/
def dFun (sp : SpD) (ts : List DT) : DT := fun ρ Q E => dArgs ts ρ (fun ds => sp ds Q E) E
theorem pu_fun {x : Str} {p : Pos} {e : Expr} {es : List Expr} {k np : Nat} {sp : SpD} {ts : List DT} (F : Has X.prog X.w X.K X.mg X.base k x np sp) (hM : AmOk X.w M) (hr : RoomG k X.A) (tk : Takes X W) (hg : Gl X x) (ha : PuA M W X (e :: es) ts) (hl : ts.length = np := by rfl)
    (hdb : (x == ("__debug__" : Str)) = false := by decide) (he : starEach (e :: es) X.env = (false, eval e X.env) :: starEach es X.env := by rfl) (hpl : (backTo pos (starEach es X.env)).any (·.1) = false := by rfl) : PuE M W X (.Call (.Name x p) (e :: es) [] pos) (dFun sp ts) := by
  obtain ⟨f, fd, ps, _, gm, kp, b, Fk⟩ := F
  refine PEimp (g_call (Fk M hM) hr hg gm kp b (fun σ => passAt tk σ) ha hdb he hpl) fun σ H QV ⟨H0, F, ρ, Q, E, k, ht, q, e⟩ => ?_
  refine all_imp ts k ht (fun vs H1 F1 ds g1 r1 l1 h1 => ?_) e
  exact ⟨F1, ds, Q, E, g1.self, r1, l1.trans hl, h1, fun v H' F' d g r hq => q v H' F' d (g1.trans g) r hq, fun x c dx H' F' g xr hx => e x c dx H' F' (g1.trans g) xr hx⟩
theorem pu_fun0 {x : Str} {p : Pos} {k : Nat} {sp : SpD} (F : Has X.prog X.w X.K X.mg X.base k x 0 sp) (hM : AmOk X.w M) (hr : RoomG k X.A) (tk : Takes X W) (hg : Gl X x)
    (hdb : (x == ("__debug__" : Str)) = false := by decide) : PuE M W X (.Call (.Name x p) [] [] pos) (dFun sp []) := by
  obtain ⟨f, fd, ps, _, gm, kp, b, Fk⟩ := F
  refine ⟨fun pins s σ H QV I ⟨H0, F, ρ, Q, E, k, ht, q, e⟩ => ?_⟩
  refine wpAny_Call_Name_kw (ld_glob I hg gm ?_ hdb)
  exact PySem.W.callWith_K0 I.kIn kp (g_run (us := []) (vs := []) (E := WE W) (Fk M hM) hr b (passAt tk σ) I .nil ⟨F, [], Q, E, k.refl, rfl, rfl, ht, fun v H' F' d g r hq => q v H' F' d g r hq, fun x c dx H' F' g xr hx => e x c dx H' F' g xr hx⟩)

/-! ### things of one's own changed -/
theorem EOk.upd {K : PySem.W.Frag} {mg : Str → Option Value} {H0 F H F' H' : Hp} {σ : L2.St} {ρ : DEnv} {i : Nat} {d d' : D} {a : Addr} {o : HO} (k : EOk K mg M H0 F H σ ρ) (g : Gr M F H F' H') (e1 : ρ[i]? = some (some (.own d))) (e2 : σ[i]? = some (some (.ref a)))
    (r : ORep K mg M F' (upd H' a o) d' (.ref a)) : EOk K mg M H0 F' (L2.upd H' a o) σ (ρ.set i (some (.own d'))) := by
  have k' := k.grow g
  obtain ⟨nF, nf, n0⟩ := k'.own i d a e1 e2
  have hl : i < ρ.length := (List.getElem?_eq_some_iff.mp e1).1
  have at_ : ∀ (j : Nat) c, (ρ.set i (some (.own d')))[j]? = some (some c) → (j = i ∧ c = .own d') ∨ (j ≠ i ∧ ρ[j]? = some (some c)) := fun j c h => by
    by_cases z : i = j
    · subst z
      rw [List.getElem?_set_self hl] at h; cases h; exact .inl ⟨rfl, rfl⟩
    · rw [List.getElem?_set_ne z] at h; exact .inr ⟨fun q => z q.symm, h⟩
  have nb : ∀ (j : Nat) e b, j ≠ i → ρ[j]? = some (some (.own e)) → σ[j]? = some (some (.ref b)) → b ≠ a := fun j e b ne h1 h2 z => by
    subst z
    exact ne (k'.dis j i e d b h1 e1 h2 e2)
  refine ⟨fun b u e => ?_, k'.off, M.stab H' _ (fun b q => upd_ne fun e => nf (e ▸ q)) k'.inv, by simp [k.len], fun j c e => ?_, fun j e b h1 h2 => ?_, fun j l e e' b h1 h2 h3 h4 => ?_⟩
  · rw [upd_ne (ne_of_none e nF)]; exact k'.inn b u e
  · rcases at_ j c e with ⟨rfl, rfl⟩ | ⟨ne, h⟩
    · exact ⟨.ref a, e2, r⟩
    · obtain ⟨v, e3, r3⟩ := k'.slot j c h
      refine ⟨v, e3, ?_⟩
      cases c with
      | val x => exact r3
      | own x =>
        obtain ⟨b, o', rfl, _, _⟩ := ORep.addr (show ORep K mg M F' H' x v from r3)
        exact ORep.mono r3 (.refl _) (upd_ne (nb j x b ne h e3))
  · rcases at_ j _ h1 with ⟨rfl, _⟩ | ⟨ne, h⟩
    · rw [e2] at h2; cases h2; exact ⟨nF, nf, n0⟩
    · exact k'.own j e b h h2
  · rcases at_ j _ h1 with ⟨rfl, _⟩ | ⟨ne, h⟩
    · rcases at_ l _ h2 with ⟨rfl, _⟩ | ⟨ne', h'⟩
      · rfl
      · exact k'.dis j l d e' b e1 h' h3 h4
    · rcases at_ l _ h2 with ⟨rfl, _⟩ | ⟨ne', h'⟩
      · exact k'.dis j l e d b h e1 h3 h4
      · exact k'.dis j l e e' b h h' h3 h4
theorem SOk.upd {K : PySem.W.Frag} {mg : Str → Option Value} {F0 H0 F H F' H' : Hp} {σ : L2.St} {ρ : DEnv} {i : Nat} {d d' : D} {a : Addr} {o : HO} (k : SOk K mg M F0 H0 F H σ ρ) (g : Gr M F H F' H') (e1 : ρ[i]? = some (some (.own d))) (e2 : σ[i]? = some (some (.ref a)))
    (r : ORep K mg M F' (L2.upd H' a o) d' (.ref a)) : SOk K mg M F0 H0 F' (L2.upd H' a o) σ (ρ.set i (some (.own d'))) := by
  have k' := k.grow g
  obtain ⟨nF, nf, n0⟩ := k'.env.own i d a e1 e2
  exact ⟨k'.gr.write n0 nf nF, k.env.upd g e1 e2 r⟩
/-- the own list in the i-th slot -/
theorem own_lst {K : PySem.W.Frag} {mg : Str → Option Value} {H0 F H F' H' : Hp} {σ : L2.St} {ρ : DEnv} {i : Nat} {ds : List D} (k : EOk K mg M H0 F H σ ρ) (e1 : ρ[i]? = some (some (.own (.lst ds)))) (g : Gr M F H F' H') :
    ∃ a vs, σ[i]? = some (some (.ref a)) ∧ H' a = some (.lst vs) ∧ RepL K mg M F' ds vs := by
  obtain ⟨v, e2, r⟩ := (k.grow g).slot i _ e1
  obtain ⟨a, vs, rfl, h, rl⟩ := r
  exact ⟨a, vs, e2, h, rl⟩
/-- x.append(e) -/
def dApp (i : Nat) (t : DT) : DS := fun N ρ => match ρ[i]? with
  | some (some (.own (.lst ds))) => t ρ (fun d => ds.length < 16777216 ∧ N.nx (ρ.set i (some (.own (.lst (ds ++ [d])))))) N.ex
  | _ => False
theorem pu_app {i : Nat} {o e : Expr} {t : DT} {apos cpos : Pos} (h : ∀ te, PE X e te → PS X (.Expr (.Call (.Attribute o "append" apos) [e] [] cpos) pos) (tDrop (tBM X.K "list" rAppend (tVar i) (tCons te tNil)))) (he : PuE M W X e t) :
    PuS M W X (.Expr (.Call (.Attribute o "append" apos) [e] [] cpos) pos) (dApp i t) := PSimp (h _ he) fun D σ H ⟨F0, H0, F, ρ, N, k, ht, q1, _, _, q4, q5⟩ => by
  unfold dApp at ht
  split at ht
  · rename_i ds e1
    obtain ⟨a, vs, e2, hH, rl⟩ := own_lst k.env e1 k.env.refl
    refine ⟨.ref a, e2, .inl ⟨rfl, vs, .inl (.inl hH)⟩, H0, F, ρ, _, N.ex, k.env, ht, fun v H1 F1 d g r h1 => ?_, fun x c dx H' F' g => q5 x c dx σ H' F' (k.gr.trans g)⟩
    obtain ⟨a', vs', e2', hH', rl'⟩ := own_lst k.env e1 g
    rw [e2] at e2'; cases e2'
    refine ⟨a, vs', v, rfl, rfl, hH', by rw [rl'.length, sizeLine_eq]; exact h1.1, ?_⟩
    exact q1 σ _ F1 _ g.sub (k.upd (d' := .lst (ds ++ [d])) g e1 e2 ⟨a, _, rfl, upd_same, rl'.snoc r⟩) h1.2
  · exact ht.elim
/-- x[k] = e -/
def dSetIx (i : Nat) (t u : DT) : DS := fun N ρ => match ρ[i]? with
  | some (some (.own (.lst ds))) => t ρ (fun d => u ρ (fun z => match z with
    | .int k => (match ixN ds.length k with | some j => N.nx (ρ.set i (some (.own (.lst (ds.set j d))))) | none => False)
    | _ => False) N.ex) N.ex
  | _ => False
theorem pu_setIx {i : Nat} {ix e tg : Expr} {t u : DT} (h : ∀ te ti, PE X e te → PE X ix ti → PS X (.Assign [tg] e pos) (tAsg te (gSub (tVar i) ti rSetL))) (he : PuE M W X e t) (hi : PuE M W X ix u) :
    PuS M W X (.Assign [tg] e pos) (dSetIx i t u) := PSimp (h _ _ he hi) fun D σ H ⟨F0, H0, F, ρ, N, k, ht, q1, _, _, q4, q5⟩ => by
  unfold dSetIx at ht
  split at ht
  · rename_i ds e1
    refine ⟨H0, F, ρ, _, N.ex, k.env, ht, fun v H1 F1 d g r h1 => ?_, fun x c dx H' F' g => q5 x c dx σ H' F' (k.gr.trans g)⟩
    obtain ⟨a, vs, e2, hH, rl⟩ := own_lst k.env e1 g
    refine ⟨.ref a, e2, H0, F1, ρ, _, N.ex, k.env.grow g, h1, fun y H2 F2 dz g2 r2 h2 => ?_, fun x c dx H' F' g' => q5 x c dx σ H' F' (k.gr.trans (g.trans g'))⟩
    split at h2
    · rename_i kk
      obtain ⟨a', vs', e2', hH', rl'⟩ := own_lst k.env e1 (g.trans g2)
      rw [e2] at e2'; cases e2'
      split at h2
      · rename_i j ej
        refine ⟨a, vs', kk, j, rfl, r2, hH', by rw [rl'.length]; exact ej, ?_⟩
        exact q1 σ _ F2 _ (g.trans g2).sub (k.upd (d' := .lst (ds.set j d)) (g.trans g2) e1 e2 ⟨a, _, rfl, upd_same, rl'.set j (Rep.mono g2.sub _ r)⟩) h2
      · exact h2.elim
    · exact h2.elim
  · exact ht.elim
/-- x = l.pop(): the last item of an own list -/
def dPop (i : Nat) (T : Tg) : DS := fun N ρ => match ρ[i]? with
  | some (some (.own (.lst ds))) => (match ds.getLast? with | some d => (match asg T d (ρ.set i (some (.own (.lst ds.dropLast)))) with | some ρ' => N.nx ρ' | none => False) | none => False)
  | _ => False
theorem RepL.dropLast {K : PySem.W.Frag} {mg : Str → Option Value} {F : Hp} {ds : List D} {vs : List V} (h : RepL K mg M F ds vs) : RepL K mg M F ds.dropLast vs.dropLast := by
  rw [List.dropLast_eq_take, List.dropLast_eq_take, h.length]
  exact h.take _
theorem pu_pop {i : Nat} {tg o : Expr} {T : Tg} {apos cpos : Pos} (h : ∀ g, PG X tg g → PS X (.Assign [tg] (.Call (.Attribute o "pop" apos) [] [] cpos) pos) (tAsg (tBM0 X.K "list" rPop (tVar i)) g)) (hg : PuG M X tg T) :
    PuS M W X (.Assign [tg] (.Call (.Attribute o "pop" apos) [] [] cpos) pos) (dPop i T) := PSimp (h _ hg) fun D σ H ⟨F0, H0, F, ρ, N, k, ht, q1, _, _, q4, q5⟩ => by
  unfold dPop at ht
  split at ht
  · rename_i ds e1
    obtain ⟨a, vs, e2, hH, rl⟩ := own_lst k.env e1 k.env.refl
    split at ht
    · rename_i d el
      split at ht
      · rename_i ρ' ea
        have hne : ds ≠ [] := fun z => by subst z; cases el
        rw [List.getLast?_eq_getElem?] at el
        obtain ⟨v, ev, rv⟩ := rl.get el
        have k1 := k.upd (d' := .lst ds.dropLast) (o := .lst vs.dropLast) k.env.refl e1 e2 ⟨a, _, rfl, upd_same, rl.dropLast⟩
        refine ⟨.ref a, e2, .inl ⟨rfl, vs, .inl (.inl hH)⟩, a, vs, v, rfl, rfl, hH, by rw [rl.length]; exact ev, ?_⟩
        exact ⟨H0, F, _, ρ', d, k1.env, rv, ea, fun σ' _ k' => q1 σ' _ F ρ' (.refl F) ⟨k1.gr, k'⟩ ht⟩
      · exact ht.elim
    · exact ht.elim
  · exact ht.elim
/-- x.extend([..]) with a list that nobody else holds -/
def dExt (i : Nat) (t : DT) : DS := fun N ρ => match ρ[i]? with
  | some (some (.own (.lst ds))) => t ρ (fun d => match d with | .lst es => ds.length + es.length ≤ 16777216 ∧ N.nx (ρ.set i (some (.own (.lst (ds ++ es))))) | _ => False) N.ex
  | _ => False
theorem pu_ext {i : Nat} {o e : Expr} {t : DT} {apos cpos : Pos} (h : ∀ te, PE X e te → PS X (.Expr (.Call (.Attribute o "extend" apos) [e] [] cpos) pos) (tDrop (tBM X.K "list" rExtend (tVar i) (tCons te tNil)))) (he : PuE M W X e t) :
    PuS M W X (.Expr (.Call (.Attribute o "extend" apos) [e] [] cpos) pos) (dExt i t) := PSimp (h _ he) fun D σ H ⟨F0, H0, F, ρ, N, k, ht, q1, _, _, q4, q5⟩ => by
  unfold dExt at ht
  split at ht
  · rename_i ds e1
    obtain ⟨a, vs, e2, hH, rl⟩ := own_lst k.env e1 k.env.refl
    refine ⟨.ref a, e2, .inl ⟨rfl, vs, .inl (.inl hH)⟩, H0, F, ρ, _, N.ex, k.env, ht, fun v H1 F1 d g r h1 => ?_, fun x c dx H' F' g => q5 x c dx σ H' F' (k.gr.trans g)⟩
    split at h1
    · rename_i es
      obtain ⟨a', vs', e2', hH', rl'⟩ := own_lst k.env e1 g
      rw [e2] at e2'; cases e2'
      obtain ⟨b, us, rfl, hb, rb⟩ := r
      refine ⟨a, b, vs', us, rfl, rfl, hH', g.inn _ _ hb, by rw [rl'.length, rb.length, sizeLine_eq]; exact h1.1, ?_⟩
      exact q1 σ _ F1 _ g.sub (k.upd (d' := .lst (ds ++ es)) g e1 e2 ⟨a, _, rfl, upd_same, rl'.append rb⟩) h1.2
    · exact h1.elim
  · exact ht.elim
end
end PL
set_option Elab.async false
set_option linter.all false
set_option maxRecDepth 100000
namespace PL
open PySem PySem.Spec PyProof.Rows L2

/-! ## operations by data -/
def lim : Nat := 16777216
theorem lim_eq : lim = sizeLine := rfl

/-! ### equality -/
mutual
/-- ==, by data -/
def eqv : D → D → Bool
  | .non, .non => true
  | .bl a, .bl b => a == b
  | .bl a, .int j => (if a then 1 else 0) == j
  | .int i, .bl b => i == (if b then 1 else 0)
  | .int i, .int j => i == j
  | .str x, .str y => x == y
  | .lst xs, .lst ys => eqvL xs ys
  | .tup xs, .tup ys => eqvL xs ys
  | _, _ => false
def eqvL : List D → List D → Bool
  | [], [] => true
  | x :: xs, y :: ys => eqv x y && eqvL xs ys
  | _, _ => false
end
mutual
/-- plain data, not too deep -/
def okv : Nat → D → Bool
  | _, .non => true
  | _, .bl _ => true
  | _, .int _ => true
  | _, .str x => x.cps.all (· < 0x110000)
  | n + 1, .lst xs => okvL n xs
  | n + 1, .tup xs => okvL n xs
  | _, _ => false
def okvL : Nat → List D → Bool
  | _, [] => true
  | n, x :: xs => okv n x && okvL n xs
end
mutual
def D.py : D → PyData
  | .non => .none
  | .bl b => .bool b
  | .int i => .int i
  | .str s => .str s
  | .lst xs => .list (pyL xs)
  | .tup xs => .tuple (pyL xs)
  | _ => .none
def pyL : List D → List PyData
  | [] => []
  | x :: xs => x.py :: pyL xs
end
section
variable {K : PySem.W.Frag} {mg : Str → Option Value} {M : Am} {F : Hp}
mutual
theorem rep_dp : ∀ (d : D) (n : Nat) {v : V}, okv n d = true → Rep K mg M F d v → Dp K F v d.py
  | .non, _, _, _, r => by rw [show _ = V.non from r]; exact .non
  | .bl b, _, _, _, r => by rw [show _ = V.bl b from r]; exact .bl b
  | .int i, _, _, _, r => by rw [show _ = V.int i from r]; exact .int i
  | .str i, _, _, _, r => by rw [show _ = V.str i from r]; exact .str i
  | .lst xs, 0, _, h, _ => by simp [okv] at h
  | .tup xs, 0, _, h, _ => by simp [okv] at h
  | .lst xs, n + 1, _, h, r => by
    obtain ⟨a, vs, rfl, q, rl⟩ := r
    exact .lst (.inl (.inl q)) (rep_dpL xs n (by simpa [okv] using h) rl)
  | .tup xs, n + 1, _, h, r => by
    obtain ⟨a, vs, rfl, q, rl⟩ := rep_tup r
    exact .tup q (rep_dpL xs n (by simpa [okv] using h) rl)
  | .ty _, _, _, h, _ => by simp [okv] at h
  | .dct _ _, _, _, h, _ => by simp [okv] at h
  | .obj _ _ _, _, _, h, _ => by simp [okv] at h
  | .tdc _ _, _, _, h, _ => by simp [okv] at h
  | .glo _, _, _, h, _ => by simp [okv] at h
  | .hand, _, _, h, _ => by simp [okv] at h
theorem rep_dpL : ∀ (ds : List D) (n : Nat) {vs : List V}, okvL n ds = true → RepL K mg M F ds vs → DpAll K F vs (pyL ds)
  | [], _, _, _, r => by rw [show _ = [] from r]; exact .nil
  | d :: ds, n, _, h, r => by
    obtain ⟨x, xs, rfl, r1, r2⟩ := r
    simp only [okvL, Bool.and_eq_true] at h
    exact .cons (rep_dp d n h.1 r1) (rep_dpL ds n h.2 r2)
end
mutual
theorem py_lay : ∀ (d : D) (n : Nat), okv n d = true → d.py.canLay0 = true ∧ d.py.depth ≤ n
  | .non, _, _ => by simp [D.py, PyData.canLay0, PyData.depth]
  | .bl b, _, _ => by simp [D.py, PyData.canLay0, PyData.depth]
  | .int i, _, _ => by simp [D.py, PyData.canLay0, PyData.depth]
  | .str i, _, h => by
    refine ⟨?_, by simp [D.py, PyData.depth]⟩
    simpa [D.py, PyData.canLay0, PyData.strOk, okv] using h
  | .lst xs, 0, h => by simp [okv] at h
  | .tup xs, 0, h => by simp [okv] at h
  | .lst xs, n + 1, h => by
    have := py_layL xs n (by simpa [okv] using h)
    exact ⟨by simpa [D.py, PyData.canLay0] using this.1, by simpa [D.py, PyData.depth] using this.2⟩
  | .tup xs, n + 1, h => by
    have := py_layL xs n (by simpa [okv] using h)
    exact ⟨by simpa [D.py, PyData.canLay0] using this.1, by simpa [D.py, PyData.depth] using this.2⟩
  | .ty _, _, h => by simp [okv] at h
  | .dct _ _, _, h => by simp [okv] at h
  | .obj _ _ _, _, h => by simp [okv] at h
  | .tdc _ _, _, h => by simp [okv] at h
  | .glo _, _, h => by simp [okv] at h
  | .hand, _, h => by simp [okv] at h
theorem py_layL : ∀ (ds : List D) (n : Nat), okvL n ds = true → PyData.canLayAll0 (pyL ds) = true ∧ PyData.depthAll (pyL ds) ≤ n
  | [], _, _ => by simp [pyL, PyData.canLayAll0, PyData.depthAll]
  | d :: ds, n, h => by
    simp only [okvL, Bool.and_eq_true] at h
    have h1 := py_lay d n h.1
    have h2 := py_layL ds n h.2
    simp only [pyL, PyData.canLayAll0, PyData.depthAll, Bool.and_eq_true]
    exact ⟨⟨h1.1, h2.1⟩, by omega⟩
end
mutual
theorem py_eqv : ∀ (d e : D) (n m : Nat), okv n d = true → okv m e = true → PyData.eqv d.py e.py = eqv d e
  | .lst xs, .lst ys, 0, _, h, _ => by simp [okv] at h
  | .lst xs, .lst ys, _ + 1, 0, _, h => by simp [okv] at h
  | .lst xs, .lst ys, n + 1, m + 1, h, k => by
    simp only [D.py, PyData.eqv, eqv]
    exact py_eqvL xs ys n m (by simpa [okv] using h) (by simpa [okv] using k)
  | .tup xs, .tup ys, 0, _, h, _ => by simp [okv] at h
  | .tup xs, .tup ys, _ + 1, 0, _, h => by simp [okv] at h
  | .tup xs, .tup ys, n + 1, m + 1, h, k => by
    simp only [D.py, PyData.eqv, eqv]
    exact py_eqvL xs ys n m (by simpa [okv] using h) (by simpa [okv] using k)
  | .non, e, _, _, _, k => by cases e <;> simp [D.py, PyData.eqv, eqv, okv] at k ⊢
  | .bl _, e, _, _, _, k => by cases e <;> simp [D.py, PyData.eqv, eqv, okv] at k ⊢
  | .int _, e, _, _, _, k => by cases e <;> simp [D.py, PyData.eqv, eqv, okv] at k ⊢
  | .str _, e, _, _, _, k => by cases e <;> simp [D.py, PyData.eqv, eqv, okv] at k ⊢
  | .lst _, .non, _, _, _, k => by simp [D.py, PyData.eqv, eqv]
  | .lst _, .bl _, _, _, _, k => by simp [D.py, PyData.eqv, eqv]
  | .lst _, .int _, _, _, _, k => by simp [D.py, PyData.eqv, eqv]
  | .lst _, .str _, _, _, _, k => by simp [D.py, PyData.eqv, eqv]
  | .lst _, .tup _, _, _, _, k => by simp [D.py, PyData.eqv, eqv]
  | .tup _, .non, _, _, _, k => by simp [D.py, PyData.eqv, eqv]
  | .tup _, .bl _, _, _, _, k => by simp [D.py, PyData.eqv, eqv]
  | .tup _, .int _, _, _, _, k => by simp [D.py, PyData.eqv, eqv]
  | .tup _, .str _, _, _, _, k => by simp [D.py, PyData.eqv, eqv]
  | .tup _, .lst _, _, _, _, k => by simp [D.py, PyData.eqv, eqv]
  | .lst _, .ty _, _, _, _, k => by simp [okv] at k
  | .lst _, .dct _ _, _, _, _, k => by simp [okv] at k
  | .lst _, .obj _ _ _, _, _, _, k => by simp [okv] at k
  | .lst _, .tdc _ _, _, _, _, k => by simp [okv] at k
  | .lst _, .glo _, _, _, _, k => by simp [okv] at k
  | .lst _, .hand, _, _, _, k => by simp [okv] at k
  | .tup _, .ty _, _, _, _, k => by simp [okv] at k
  | .tup _, .dct _ _, _, _, _, k => by simp [okv] at k
  | .tup _, .obj _ _ _, _, _, _, k => by simp [okv] at k
  | .tup _, .tdc _ _, _, _, _, k => by simp [okv] at k
  | .tup _, .glo _, _, _, _, k => by simp [okv] at k
  | .tup _, .hand, _, _, _, k => by simp [okv] at k
  | .ty _, _, _, _, h, _ => by simp [okv] at h
  | .dct _ _, _, _, _, h, _ => by simp [okv] at h
  | .obj _ _ _, _, _, _, h, _ => by simp [okv] at h
  | .tdc _ _, _, _, _, h, _ => by simp [okv] at h
  | .glo _, _, _, _, h, _ => by simp [okv] at h
  | .hand, _, _, _, h, _ => by simp [okv] at h
theorem py_eqvL : ∀ (ds es : List D) (n m : Nat), okvL n ds = true → okvL m es = true → PyData.eqvAll (pyL ds) (pyL es) = eqvL ds es
  | [], [], _, _, _, _ => rfl
  | [], _ :: _, _, _, _, _ => rfl
  | _ :: _, [], _, _, _, _ => rfl
  | d :: ds, e :: es, n, m, h, k => by
    simp only [okvL, Bool.and_eq_true] at h k
    simp only [pyL, PyData.eqvAll, eqvL]
    rw [py_eqv d e n m h.1 k.1, py_eqvL ds es n m h.2 k.2]
end
end
mutual
theorem Dp.mono {K : PySem.W.Frag} {F H : Hp} (s : Sub F H) : ∀ (d : PyData) {v : V}, Dp K F v d → Dp K H v d
  | _, _, .non => .non
  | _, _, .bl b => .bl b
  | _, _, .int b => .int b
  | _, _, .str b => .str b
  | .list ds, _, .lst q r => .lst (s.seqL q) (DpAll.mono s ds r)
  | .tuple ds, _, .tup q r => .tup (s.seqT q) (DpAll.mono s ds r)
theorem DpAll.mono {K : PySem.W.Frag} {F H : Hp} (s : Sub F H) : ∀ (ds : List PyData) {vs : List V}, DpAll K F vs ds → DpAll K H vs ds
  | [], _, .nil => .nil
  | d :: ds, _, .cons a b => .cons (Dp.mono s d a) (DpAll.mono s ds b)
end
def okd (d : D) : Bool := okv 60 d
theorem okd_shaped {d : D} (h : okd d = true) : SeqAt.shaped d.py = true := by
  have := py_lay d 60 h
  unfold SeqAt.shaped
  rw [this.1, decide_eq_true (by omega : d.py.depth ≤ 64)]
  rfl
def eqD (x y : D) : Ret := .cond ((okd x && okd y) = true) (.bl (eqv x y))
def neD (x y : D) : Ret := .cond ((okd x && okd y) = true) (.bl (!eqv x y))
section
variable {M : Am} {X : Cx}
theorem arep_dp {K : PySem.W.Frag} {mg : Str → Option Value} {F H : Hp} (s : Sub F H) {d : D} {v : V} (h : okd d = true) (r : ARep K mg M F H d v) : Dp K H v d.py := by
  unfold okd at h
  cases d <;> first
    | exact Dp.mono s _ (rep_dp (M := M) (mg := mg) _ 60 h r)
    | skip
  case lst ds =>
    obtain ⟨a, vs, rfl, nf, q, rl⟩ := r
    exact .lst (.inl (.inl q)) (DpAll.mono s _ (rep_dpL ds 59 (by simpa [okv] using h) rl))
  case dct ks xs => simp [okv] at h
  case obj c ns xs => simp [okv] at h
theorem od_eq (hu : X.A.units + 64 < cLine) : OpR X (compareOp .Eq) (rD M X eqD) := by
  intro pins s σ H x y v u Q I rx ry ⟨F, dx, dy, dz, g, r1, r2, e, q⟩
  obtain ⟨hk, rfl⟩ := e
  · rw [Bool.and_eq_true] at hk
    refine op_eqD hu pins s σ H x y v u Q I rx ry ⟨dx.py, dy.py, arep_dp g.inn hk.1 r1, arep_dp g.inn hk.2 r2, okd_shaped hk.1, okd_shaped hk.2, ?_⟩
    rw [py_eqv dx dy 60 60 hk.1 hk.2]
    exact q _ H F g rfl
theorem od_ne (hu : X.A.units + 64 < cLine) : OpR X (compareOp .NotEq) (rD M X neD) := by
  intro pins s σ H x y v u Q I rx ry ⟨F, dx, dy, dz, g, r1, r2, e, q⟩
  obtain ⟨hk, rfl⟩ := e
  · rw [Bool.and_eq_true] at hk
    refine op_neD hu pins s σ H x y v u Q I rx ry ⟨dx.py, dy.py, arep_dp g.inn hk.1 r1, arep_dp g.inn hk.2 r2, okd_shaped hk.1, okd_shaped hk.2, ?_⟩
    rw [py_eqv dx dy 60 60 hk.1 hk.2]
    exact q _ H F g rfl
end
end PL
set_option Elab.async false
set_option linter.all false
set_option maxRecDepth 100000
namespace PL
open PySem PySem.Spec PyProof.Rows L2

section
variable {M : Am} {X : Cx}
/-- a new list, a new tuple as the answer -/
theorem new_tup {K : PySem.W.Frag} {mg : Str → Option Value} {F H : Hp} {ds : List D} {vs : List V} {Q : VK} (g : Gr M F H F H) (r : RepL K mg M F ds vs) (q : ∀ v H' F', Gr M F H F' H' → Rep K mg M F' (.tup ds) v → Q v H') : ∀ p o, H p = none → TupO o → Q (.ref p) (upd H p (.frz o (.tup vs))) := fun p o np to =>
  q _ _ (upd F p (.frz o (.tup vs))) (g.laid _ np) ⟨p, o, vs, rfl, upd_same, to, RepL.mono (upd_sub (g.noF np)) _ r⟩
theorem new_lst {K : PySem.W.Frag} {mg : Str → Option Value} {F H : Hp} {ds : List D} {vs : List V} {Q : VK} (g : Gr M F H F H) (r : RepL K mg M F ds vs) (q : ∀ v H' F', Gr M F H F' H' → Rep K mg M F' (.lst ds) v → Q v H') : ∀ p, H p = none → Q (.ref p) (upd H p (.lst vs)) := fun p np =>
  q _ _ (upd F p (.lst vs)) (g.laid (.lst vs) np) ⟨p, vs, rfl, upd_same, RepL.mono (upd_sub (g.noF np)) _ r⟩
/-- .. of one's own -/
theorem new_own {K : PySem.W.Frag} {mg : Str → Option Value} {F H : Hp} {ds : List D} {vs : List V} {Q : VK} (g : Gr M F H F H) (r : RepL K mg M F ds vs) (q : ∀ a H' F', Gr M F H F' H' → H a = none → F' a = none → ORep K mg M F' H' (.lst ds) (.ref a) → Q (.ref a) H') : ∀ p, H p = none → Q (.ref p) (upd H p (.lst vs)) := fun p np =>
  q p _ F (g.laidH (.lst vs) np) np (g.noF np) ⟨p, vs, rfl, upd_same, r⟩
/-- a sequence that may be read -/
theorem arep_lst {K : PySem.W.Frag} {mg : Str → Option Value} {F H : Hp} {ds : List D} {v : V} (r : ARep K mg M F H (.lst ds) v) : ∃ a vs, v = .ref a ∧ H a = some (.lst vs) ∧ SqL K H a vs ∧ RepL K mg M F ds vs := by
  obtain ⟨a, vs, rfl, _, h, rl⟩ := r
  exact ⟨a, vs, rfl, h, .inl (.inl h), rl⟩
theorem arep_tup {K : PySem.W.Frag} {mg : Str → Option Value} {F H : Hp} {ds : List D} {v : V} (s : Sub F H) (r : ARep K mg M F H (.tup ds) v) : ∃ a vs, v = .ref a ∧ SqT K H a vs ∧ RepL K mg M F ds vs := by
  obtain ⟨a, vs, e, h, rl⟩ := rep_tup r
  exact ⟨a, vs, e, s.seqT h, rl⟩
/-- .. its object -/
theorem arep_tupO {pins : List (Addr × Obj)} {σ : L2.St} {F H : Hp} {s : Shared} (I : L2.Inv X pins σ H s) {ds : List D} {v : V} (su : Sub F H) (r : ARep X.K X.mg M F H (.tup ds) v) : ∃ a vs us, v = .ref a ∧ s.heap.get? a = some { cls := .type "tuple", data := .seq us.toArray } ∧ Vals vs us ∧ us.length ≤ sizeLine ∧ SqT X.K H a vs ∧ RepL X.K X.mg M F ds vs := by
  obtain ⟨a, o, vs, e, h, ⟨arr, rfl⟩, rl⟩ := r
  obtain ⟨g1, l, us, hv, o', g2, c2, n, d2⟩ := I.hok a _ (su _ _ h)
  rw [g1] at g2; cases g2
  cases d2
  exact ⟨a, vs, us, e, g1, hv, by rw [← hv.length]; exact l, .inl (.inr ⟨_, su _ _ h⟩), rl⟩

/-! ### numbers -/
def mulOk (i j : Int) : Prop := (i.natAbs < 2 ^ 64 ∨ j.natAbs < 2 ^ 64) ∨ i.natAbs.log2 + j.natAbs.log2 < 1000000
def addD : D → D → Ret
  | .int i, .int j => .ok (.int (i + j))
  | .str s, .str t => .cond (s.length + t.length ≤ lim) (.str (s ++ t))
  | .tup xs, .tup ys => .cond (xs.length + ys.length ≤ lim) (.tup (xs ++ ys))
  | .lst xs, .lst ys => .cond (xs.length + ys.length ≤ lim) (.lst (xs ++ ys))
  | _, _ => .no
def subD : D → D → Ret
  | .int i, .int j => .ok (.int (i - j))
  | _, _ => .no
def mulD : D → D → Ret
  | .int i, .int j => .cond (mulOk i j) (.int (i * j))
  | .lst xs, .int k => (.cond (xs.length ≤ 1000 ∧ -1000 ≤ k ∧ k ≤ 1000) (.lst (List.replicate k.toNat xs).flatten))
  | _, _ => .no
def fdivD : D → D → Ret
  | .int i, .int j => .cond (0 < j ∧ j.natAbs.log2 < 9000) (.int (i / j))
  | _, _ => .no
def modD : D → D → Ret
  | .int i, .int j => .cond (0 < j) (.int (i % j))
  | _, _ => .no
def powD : D → D → Ret
  | .int i, .int j => .cond (0 ≤ j ∧ j ≤ 1000000 ∧ i.natAbs < 2 ^ 64) (.int (i ^ j.toNat))
  | _, _ => .no
def negD : D → Ret
  | .int i => .ok (.int (-i))
  | _ => .no
theorem mulOk.ok {i j : Int} (h : mulOk i j) : IntMulOk i j := by
  rcases h with h | h
  · refine CMul.ok ?_
    rcases h with h | h
    · exact .inl ⟨by omega, by omega⟩
    · exact .inr ⟨by omega, by omega⟩
  · exact CMulW.ok h
theorem od_add : OpR X (binaryOp .Add) (rD M X addD) := by
  intro pins s σ H x y v u Q I rx ry ⟨F, dx, dy, dz, g, r1, r2, e, q⟩
  unfold addD at e
  split at e
  · rename_i i j
    cases e
    exact op_add pins s σ H x y v u Q I rx ry ⟨i, j, r1, r2, q _ H F g rfl⟩
  · rename_i i j
    obtain ⟨c, rfl⟩ := e
    exact op_add_str pins s σ H x y v u Q I rx ry ⟨i, j, r1, r2, c, q _ H F g rfl⟩
  · rename_i xs ys
    obtain ⟨c, rfl⟩ := e
    obtain ⟨a, vs, ws, e1, g1, v1, z1, h1, l1⟩ := arep_tupO I g.inn r1
    obtain ⟨b, us, ws', e2, g2, v2, z2, h2, l2⟩ := arep_tupO I g.inn r2
    subst e1 e2
    by_cases hx : xs = []
    · subst hx
      have hv : vs = [] := by simpa [RepL] using l1
      refine op_catA pins s σ H _ _ v u Q I rx ry ⟨a, b, vs, us, rfl, rfl, h1, h2, by rw [l1.length, l2.length]; exact c, fun z => q _ H F g r2, fun z => absurd hv z, fun z => absurd hv z⟩
    by_cases hy : ys = []
    · subst hy
      have hv : us = [] := by simpa [RepL] using l2
      have hx' : vs ≠ [] := fun z => hx (by
        have := l1.length
        rw [z] at this
        exact List.length_eq_zero_iff.mp this.symm)
      refine op_catA pins s σ H _ _ v u Q I rx ry ⟨a, b, vs, us, rfl, rfl, h1, h2, by rw [l1.length, l2.length]; exact c, fun z => absurd z hx', fun _ _ => q _ H F g (by rw [List.append_nil]; exact r1), fun _ z => absurd hv z⟩
    cases rx; cases ry
    have lw : ws.length = xs.length := by rw [← v1.length, l1.length]
    have lw' : ws'.length = ys.length := by rw [← v2.length, l2.length]
    have hz : (ws ++ ws').length ≤ sizeLine := by
      rw [List.length_append, lw, lw']
      exact c
    have hh := tnew (t' := s.toks) (us := ws ++ ws') I (v1.append v2) hz (fun _ _ e => e)
    rw [← List.append_toArray] at hh
    refine P.add_tuple g1 g2 (fun z => hx ?_) (fun z => hy ?_) ⟨.ref s.heap.objs.size, _, hh, rfl, new_tup g (l1.append l2) q _ _ I.fresh ⟨_, rfl⟩⟩ ?_
    · have : ws = [] := by simpa using z
      rw [this] at lw
      exact List.length_eq_zero_iff.mp lw.symm
    · have : ws' = [] := by simpa using z
      rw [this] at lw'
      exact List.length_eq_zero_iff.mp lw'.symm
    · simpa using hz
  · rename_i xs ys
    obtain ⟨c, rfl⟩ := e
    obtain ⟨a, vs, rfl, h1, _, l1⟩ := arep_lst r1
    obtain ⟨b, us, rfl, h2, _, l2⟩ := arep_lst r2
    exact op_cat pins s σ H _ _ v u Q I rx ry ⟨a, b, vs, us, rfl, rfl, h1, h2, by rw [l1.length, l2.length]; exact c, new_lst g (l1.append l2) q⟩
  · exact e.elim
theorem od_sub : OpR X (binaryOp .Sub) (rD M X subD) := by
  intro pins s σ H x y v u Q I rx ry ⟨F, dx, dy, dz, g, r1, r2, e, q⟩
  unfold subD at e
  split at e
  · rename_i i j
    cases e
    exact op_sub pins s σ H x y v u Q I rx ry ⟨i, j, r1, r2, q _ H F g rfl⟩
  · exact e.elim
theorem RepL.rep {K : PySem.W.Frag} {mg : Str → Option Value} {F : Hp} {ds : List D} {vs : List V} (h : RepL K mg M F ds vs) : ∀ k : Nat, RepL K mg M F (List.replicate k ds).flatten (List.replicate k vs).flatten
  | 0 => rfl
  | k + 1 => by
    rw [List.replicate_succ, List.replicate_succ, List.flatten_cons, List.flatten_cons]
    exact h.append (RepL.rep h k)
theorem od_mul : OpR X (binaryOp .Mult) (rD M X mulD) := by
  intro pins s σ H x y v u Q I rx ry ⟨F, dx, dy, dz, g, r1, r2, e, q⟩
  unfold mulD at e
  split at e
  · rename_i i j
    obtain ⟨c, rfl⟩ := e
    exact (opI (C := mulOk) (g := fun i j => i * j) fun _ _ _ _ _ _ _ hc q => mul_int q hc.ok) pins s σ H x y v u Q I rx ry ⟨i, j, r1, r2, c, q _ H F g rfl⟩
  · rename_i xs k
    obtain ⟨c, rfl⟩ := e
    obtain ⟨a, vs, rfl, h1, _, l1⟩ := arep_lst r1
    have hk : k.toNat ≤ 1000 := by omega
    have hz : vs.length * k.toNat ≤ sizeLine := by
      rw [l1.length, sizeLine_eq]
      exact Nat.le_trans (Nat.mul_le_mul c.1 hk) (by decide)
    exact op_rep pins s σ H _ _ v u Q I rx ry ⟨a, k, vs, rfl, r2, h1, by omega, by omega, hz, new_lst g (l1.rep _) q⟩
  · exact e.elim
theorem od_fdiv : OpR X (binaryOp .FloorDiv) (rD M X fdivD) := by
  intro pins s σ H x y v u Q I rx ry ⟨F, dx, dy, dz, g, r1, r2, e, q⟩
  unfold fdivD at e
  split at e
  · rename_i i j
    obtain ⟨c, rfl⟩ := e
    exact op_fdivW pins s σ H x y v u Q I rx ry ⟨i, j, r1, r2, c, q _ H F g rfl⟩
  · exact e.elim
theorem od_mod : OpR X (binaryOp .Mod) (rD M X modD) := by
  intro pins s σ H x y v u Q I rx ry ⟨F, dx, dy, dz, g, r1, r2, e, q⟩
  unfold modD at e
  split at e
  · rename_i i j
    obtain ⟨c, rfl⟩ := e
    exact op_mod pins s σ H x y v u Q I rx ry ⟨i, j, r1, r2, c, q _ H F g rfl⟩
  · exact e.elim
theorem od_pow : OpR X (binaryOp .Pow) (rD M X powD) := by
  intro pins s σ H x y v u Q I rx ry ⟨F, dx, dy, dz, g, r1, r2, e, q⟩
  unfold powD at e
  split at e
  · rename_i i j
    obtain ⟨c, rfl⟩ := e
    exact op_pow pins s σ H x y v u Q I rx ry ⟨i, j, r1, r2, c, q _ H F g rfl⟩
  · exact e.elim
theorem ud_neg : UnR X (unaryOp .USub) (rD1 M X negD) := by
  intro pins s σ H x v Q I rx ⟨F, dx, dz, g, r1, e, q⟩
  unfold negD at e
  split at e
  · rename_i i
    cases e
    exact un_neg pins s σ H x v Q I rx ⟨i, r1, q _ H F g rfl⟩
  · exact e.elim
/-- op= on numbers -/
def iaddD : D → D → Ret
  | .int i, .int j => .ok (.int (i + j))
  | _, _ => .no
theorem id_add : PIp X .Add (rD M X iaddD) := by
  intro pins s σ H x y v u Q I rx ry ⟨F, dx, dy, dz, g, r1, r2, e, q⟩
  unfold iaddD at e
  split at e
  · rename_i i j
    cases e
    exact ip_add pins s σ H x y v u Q I rx ry ⟨i, j, r1, r2, q _ H F g rfl⟩
  · exact e.elim
theorem id_sub : PIp X .Sub (rD M X subD) := by
  intro pins s σ H x y v u Q I rx ry ⟨F, dx, dy, dz, g, r1, r2, e, q⟩
  unfold subD at e
  split at e
  · rename_i i j
    cases e
    exact ip_sub pins s σ H x y v u Q I rx ry ⟨i, j, r1, r2, q _ H F g rfl⟩
  · exact e.elim
/-! ### order of numbers -/
def ltD : D → D → Ret
  | .int i, .int j => .ok (.bl (decide (i < j)))
  | _, _ => .no
def leD : D → D → Ret
  | .int i, .int j => .ok (.bl (decide (i ≤ j)))
  | _, _ => .no
def gtD : D → D → Ret
  | .int i, .int j => .ok (.bl (decide (j < i)))
  | _, _ => .no
def geD : D → D → Ret
  | .int i, .int j => .ok (.bl (decide (j ≤ i)))
  | _, _ => .no
theorem od_lt : OpR X (compareOp .Lt) (rD M X ltD) := by
  intro pins s σ H x y v u Q I rx ry ⟨F, dx, dy, dz, g, r1, r2, e, q⟩
  unfold ltD at e
  split at e
  · rename_i i j
    cases e
    exact op_lt pins s σ H x y v u Q I rx ry ⟨i, j, r1, r2, q _ H F g rfl⟩
  · exact e.elim
theorem od_le : OpR X (compareOp .LtE) (rD M X leD) := by
  intro pins s σ H x y v u Q I rx ry ⟨F, dx, dy, dz, g, r1, r2, e, q⟩
  unfold leD at e
  split at e
  · rename_i i j
    cases e
    exact op_le pins s σ H x y v u Q I rx ry ⟨i, j, r1, r2, q _ H F g rfl⟩
  · exact e.elim
theorem od_gt : OpR X (compareOp .Gt) (rD M X gtD) := by
  intro pins s σ H x y v u Q I rx ry ⟨F, dx, dy, dz, g, r1, r2, e, q⟩
  unfold gtD at e
  split at e
  · rename_i i j
    cases e
    exact op_gt pins s σ H x y v u Q I rx ry ⟨i, j, r1, r2, q _ H F g rfl⟩
  · exact e.elim
theorem od_ge : OpR X (compareOp .GtE) (rD M X geD) := by
  intro pins s σ H x y v u Q I rx ry ⟨F, dx, dy, dz, g, r1, r2, e, q⟩
  unfold geD at e
  split at e
  · rename_i i j
    cases e
    exact op_ge pins s σ H x y v u Q I rx ry ⟨i, j, r1, r2, q _ H F g rfl⟩
  · exact e.elim
/-! ### in -/
def keyD : D → Bool
  | .int _ => true | .str _ => true | _ => false
def inD (x y : D) : Ret := match y with
  | .lst ds => .cond ((okd x && okd (.lst ds)) = true) (.bl (ds.any fun d => eqv d x))
  | .tup ds => .cond ((okd x && okd (.tup ds)) = true) (.bl (ds.any fun d => eqv d x))
  | _ => .no
def notInD (x y : D) : Ret := match y with
  | .lst ds => .cond ((okd x && okd (.lst ds)) = true) (.bl (!ds.any fun d => eqv d x))
  | .tup ds => .cond ((okd x && okd (.tup ds)) = true) (.bl (!ds.any fun d => eqv d x))
  | _ => .no
theorem py_any {x : D} (hx : okd x = true) : ∀ (ds : List D) (n : Nat), okvL n ds = true → ((pyL ds).any fun z => PyData.eqv z x.py) = ds.any fun d => eqv d x
  | [], _, _ => rfl
  | d :: ds, n, h => by
    simp only [okvL, Bool.and_eq_true] at h
    simp only [pyL, List.any_cons]
    rw [py_eqv d x n 60 h.1 hx, py_any hx ds n h.2]
theorem room_in {d e : PyData} {A : Around} (h : SeqAt.shaped e = true) (hu : A.units + 65 < cLine) (x : Nat) : A.units + 1 + min x e.depth < cLine := by
  have := SeqAt.depth_of_shaped h
  have : min x e.depth ≤ e.depth := Nat.min_le_right _ _
  omega
theorem od_in (hu : X.A.units + 65 < cLine) : OpR X (compareOp .In) (rD M X inD) := by
  intro pins s σ H x y v u Q I rx ry ⟨F, dx, dy, dz, g, r1, r2, e, q⟩
  unfold inD at e
  split at e
  · rename_i ds
    obtain ⟨hk, rfl⟩ := e
    rw [Bool.and_eq_true] at hk
    obtain ⟨as, q1⟩ := Dp.reads I _ x v (arep_dp g.inn hk.1 r1) rx
    obtain ⟨bs, q2⟩ := Dp.reads I (.list (pyL ds)) y u (arep_dp g.inn hk.2 r2) ry
    refine SeqAt.in_list_reads q2 q1 (SeqAt.canLay_of_shaped (okd_shaped hk.2)) (SeqAt.canLay_of_shaped (okd_shaped hk.1)) (room_in (d := .none) (okd_shaped hk.1) hu _) ⟨.bl (ds.any fun d => eqv d dx), H, I, ?_, q _ H F g rfl⟩
    show Value.bool _ = Value.bool _
    rw [py_any hk.1 ds 59 (by simpa [okd, okv] using hk.2)]
  · rename_i ds
    obtain ⟨hk, rfl⟩ := e
    rw [Bool.and_eq_true] at hk
    obtain ⟨as, q1⟩ := Dp.reads I _ x v (arep_dp g.inn hk.1 r1) rx
    obtain ⟨bs, q2⟩ := Dp.reads I (.tuple (pyL ds)) y u (arep_dp g.inn hk.2 r2) ry
    refine SeqAt.in_tuple_reads q2 q1 (SeqAt.canLay_of_shaped (okd_shaped hk.2)) (SeqAt.canLay_of_shaped (okd_shaped hk.1)) (room_in (d := .none) (okd_shaped hk.1) hu _) ⟨.bl (ds.any fun d => eqv d dx), H, I, ?_, q _ H F g rfl⟩
    show Value.bool _ = Value.bool _
    rw [py_any hk.1 ds 59 (by simpa [okd, okv] using hk.2)]
  · exact e.elim
theorem od_notIn (hu : X.A.units + 65 < cLine) : OpR X (compareOp .NotIn) (rD M X notInD) := by
  intro pins s σ H x y v u Q I rx ry ⟨F, dx, dy, dz, g, r1, r2, e, q⟩
  unfold notInD at e
  split at e
  · rename_i ds
    obtain ⟨hk, rfl⟩ := e
    rw [Bool.and_eq_true] at hk
    obtain ⟨as, q1⟩ := Dp.reads I _ x v (arep_dp g.inn hk.1 r1) rx
    obtain ⟨bs, q2⟩ := Dp.reads I (.list (pyL ds)) y u (arep_dp g.inn hk.2 r2) ry
    refine SeqAt.notIn_list_reads q2 q1 (SeqAt.canLay_of_shaped (okd_shaped hk.2)) (SeqAt.canLay_of_shaped (okd_shaped hk.1)) (room_in (d := .none) (okd_shaped hk.1) hu _) ⟨.bl (!ds.any fun d => eqv d dx), H, I, ?_, q _ H F g rfl⟩
    show Value.bool _ = Value.bool _
    rw [py_any hk.1 ds 59 (by simpa [okd, okv] using hk.2)]
  · rename_i ds
    obtain ⟨hk, rfl⟩ := e
    rw [Bool.and_eq_true] at hk
    obtain ⟨as, q1⟩ := Dp.reads I _ x v (arep_dp g.inn hk.1 r1) rx
    obtain ⟨bs, q2⟩ := Dp.reads I (.tuple (pyL ds)) y u (arep_dp g.inn hk.2 r2) ry
    refine SeqAt.notIn_tuple_reads q2 q1 (SeqAt.canLay_of_shaped (okd_shaped hk.2)) (SeqAt.canLay_of_shaped (okd_shaped hk.1)) (room_in (d := .none) (okd_shaped hk.1) hu _) ⟨.bl (!ds.any fun d => eqv d dx), H, I, ?_, q _ H F g rfl⟩
    show Value.bool _ = Value.bool _
    rw [py_any hk.1 ds 59 (by simpa [okd, okv] using hk.2)]
  · exact e.elim

/-! ### items, lengths, slices -/
def ixD (x y : D) : Ret := match x, y with
  | .lst ds, .int i => (match atI ds i with | some d => .ok d | none => .no)
  | .tup ds, .int i => (match atI ds i with | some d => .ok d | none => .no)
  | .str z, .int i => (match atI z.cps.toList i with | some c => .cond (z.length ≤ lim) (.str ⟨#[c]⟩) | none => .no)
  | _, _ => .no
theorem RepL.atI {K : PySem.W.Frag} {mg : Str → Option Value} {F : Hp} {ds : List D} {vs : List V} (h : RepL K mg M F ds vs) {i : Int} {d : D} (e : L2.atI ds i = some d) : ∃ v, L2.atI vs i = some v ∧ Rep K mg M F d v := by
  unfold L2.atI at e ⊢
  rw [h.length]
  obtain ⟨j, e1, e2⟩ := Option.bind_eq_some_iff.mp e
  obtain ⟨v, e3, r⟩ := h.get e2
  exact ⟨v, by rw [e1]; exact e3, r⟩
theorem xd_ix : IxR X (rD M X ixD) := by
  intro eb ei pins s σ H x y v u Q I rx ry ⟨F, dx, dy, dz, g, r1, r2, e, q⟩ hsub
  unfold ixD at e
  split at e
  · rename_i ds i
    split at e
    · rename_i d ed
      cases e
      obtain ⟨a, vs, rfl, h1, sq, l1⟩ := arep_lst r1
      obtain ⟨w, e3, r3⟩ := l1.atI ed
      exact ix_list eb ei pins s σ H _ y v u Q I rx ry ⟨a, vs, i, w, rfl, r2, sq, e3, q _ H F g r3⟩ hsub
    · exact e.elim
  · rename_i ds i
    split at e
    · rename_i d ed
      cases e
      obtain ⟨a, vs, rfl, sq, l1⟩ := arep_tup g.inn r1
      obtain ⟨w, e3, r3⟩ := l1.atI ed
      exact ix_tup eb ei pins s σ H _ y v u Q I rx ry ⟨a, vs, i, w, rfl, r2, sq, e3, q _ H F g r3⟩ hsub
    · exact e.elim
  · rename_i z i
    split at e
    · rename_i c ed
      obtain ⟨hc, rfl⟩ := e
      exact ix_str eb ei pins s σ H x y v u Q I rx ry ⟨z, i, c, r1, r2, hc, ed, q _ H F g rfl⟩ hsub
    · exact e.elim
  · exact e.elim
def lenD (ds : List D) : Ret := match ds with
  | [.lst xs] => .ok (.int (xs.length : Nat))
  | [.tup xs] => .ok (.int (xs.length : Nat))
  | [.str z] => .cond (z.length ≤ lim) (.int (z.length : Nat))
  | _ => .no
theorem cd_len : CallR X (.builtin "len") (rDL M X lenD) := by
  intro pins s σ H xs us Q I r ⟨F, ds, dz, g, rl, e, q⟩
  unfold lenD at e
  split at e
  · rename_i zs
    cases e
    obtain ⟨x, rfl, r1⟩ := rl.one
    obtain ⟨a, vs, rfl, h1, sq, l1⟩ := arep_lst r1
    refine call_len pins s σ H _ us Q I r ⟨.ref a, vs.length, rfl, .inl ⟨vs, sq, rfl⟩, ?_⟩
    rw [l1.length]
    exact q _ H F g rfl
  · rename_i zs
    cases e
    obtain ⟨x, rfl, r1⟩ := rl.one
    obtain ⟨a, vs, rfl, sq, l1⟩ := arep_tup g.inn r1
    refine call_len pins s σ H _ us Q I r ⟨.ref a, vs.length, rfl, .inr ⟨vs, sq, rfl⟩, ?_⟩
    rw [l1.length]
    exact q _ H F g rfl
  · rename_i z
    obtain ⟨hc, rfl⟩ := e
    obtain ⟨x, rfl, r1⟩ := rl.one
    have r1 : x = V.str z := r1
    subst r1
    exact call_len pins s σ H _ us Q I r ⟨.str z, z.length, rfl, ⟨hc, rfl⟩, q _ H F g rfl⟩
  · exact e.elim
/-- x[a:b] -/
def dOptI : Option DT → DEnv → (Option Int → Prop) → (EX → Prop) → Prop
  | none => fun _ Q _ => Q none
  | some t => fun ρ Q E => t ρ (fun d => match d with | .int i => Q (some i) | _ => False) E
def cutD (xs : List D) (lo hi : Option Int) : List D := (xs.drop (HT.sIx xs.length 0 lo)).take (HT.sIx xs.length xs.length hi - HT.sIx xs.length 0 lo)
end
end PL
set_option Elab.async false
set_option linter.all false
set_option maxRecDepth 100000
namespace PL
open PySem PySem.Spec PyProof.Rows L2

section
variable {M : Am} {W : WX} {X : Cx} {pos : Pos}
/-! ### slices -/
/-- a slice's part -/
def PuO1 (M : Am) (W : WX) (X : Cx) (e : Option Expr) (t : Option DT) : Prop := match e, t with
  | none, none => True
  | some e, some t => PuE M W X e t
  | _, _ => False
def slD (x : D) (lo hi : Option Int) : Ret := match x with
  | .lst ds => .ok (.lst (cutD ds lo hi))
  | .tup ds => .ok (.tup (cutD ds lo hi))
  | _ => .no
def dSl (t : DT) (lo hi : Option DT) : DT := fun ρ Q E => t ρ (fun x => dOptI lo ρ (fun l => dOptI hi ρ (fun h => (slD x l h).to Q) E) E) E
theorem RepL.cut {K : PySem.W.Frag} {mg : Str → Option Value} {F : Hp} {ds : List D} {vs : List V} (h : RepL K mg M F ds vs) (lo hi : Option Int) : RepL K mg M F (cutD ds lo hi) (cutV vs lo hi) := by
  unfold cutD cutV
  rw [h.length]
  exact (h.drop _).take _
def tPartO (M : Am) (W : WX) (X : Cx) : Option DT → TO
  | none => tNoPart
  | some t => tPart (tE M W X t)
theorem po_of {e : Option Expr} {t : Option DT} (h : PuO1 M W X e t) : PO X e (tPartO M W X t) := by
  cases e <;> cases t <;> first
    | exact h.elim
    | exact po_none
    | exact po_some h
theorem part_imp {t : Option DT} {σ : L2.St} {H H0 F : Hp} {ρ : DEnv} {Q : Option Int → Prop} {E : EX → Prop} {QV : Option Int → Hp → Prop} (k : EOk X.K X.mg M H0 F H σ ρ) (h : dOptI t ρ Q E) (q : ∀ i H' F', Gr M F H F' H' → Q i → QV i H')
    (e : ∀ x c dx H' F', Gr M F H F' H' → XRep X.K X.mg M F' H' x c dx → E x → W c dx σ H') : tPartO M W X t σ H QV := by
  cases t with
  | none => exact q none H F k.refl h
  | some t =>
    refine ⟨H0, F, ρ, _, E, k, h, fun v H' F' d g r hq => ?_, e⟩
    cases d <;> first
      | exact hq.elim
      | exact ⟨_, r, q _ H' F' g hq⟩
def rSlF (M : Am) (X : Cx) : V → Option Int → Option Int → Hp → VK → Prop := fun x lo hi H Q => ∃ F ds, Gr M F H F H ∧ ARep X.K X.mg M F H (.tup ds) x ∧ ∀ v H' F', Gr M F H F' H' → Rep X.K X.mg M F' (.tup (cutD ds lo hi)) v → Q v H'
theorem sl_tupF : SlR X (rSlF M X) := by
  intro pins s σ H x v vl vu lo hi sl Q I rx hs hl hh ⟨F, ds, g, r, q⟩
  obtain ⟨a, vs, us, e1, g1, hv, hz, sq, rl⟩ := arep_tupO I g.inn r
  subst e1
  have lu : us.length = ds.length := by rw [← hv.length, rl.length]
  obtain ⟨T, id, h1, h2, _⟩ := sl_tupA pins s σ H _ v vl vu lo hi sl (fun _ _ => True) I rx hs hl hh ⟨a, vs, rfl, sq, fun _ => trivial, fun _ _ _ => trivial⟩
  refine ⟨T, id, h1, h2, ?_⟩
  by_cases hw : HT.sIx vs.length 0 lo = 0 ∧ HT.sIx vs.length vs.length hi = vs.length
  · have hc : cutD ds lo hi = ds := by
      unfold cutD
      rw [← rl.length]
      rw [hw.1, hw.2, List.drop_zero, rl.length, Nat.sub_zero, List.take_length]
    have h3 := sl_tupA pins s σ H _ v vl vu lo hi sl Q I rx hs hl hh ⟨a, vs, rfl, sq, fun z => q _ H F g (by rw [hc]; exact r), fun z => absurd hw z⟩
    obtain ⟨_, _, _, _, h3⟩ := h3
    exact h3
  · cases rx
    have hn : us.toArray.size = vs.length := by rw [List.size_toArray, ← hv.length]
    refine HT.getItem_tuple_cut ⟨_, g1, rfl, _, rfl⟩ hs hl hh (by rw [hn]; exact hw) ?_ (by rw [List.size_toArray]; exact hz)
    rw [hn]
    refine ⟨.ref s.heap.objs.size, _, tnew (t' := s.toks) I ((hv.drop _).take _) (by have := hz; simp only [List.length_take, List.length_drop]; omega) (fun _ _ e => e), rfl, new_tup g (rl.cut lo hi) q _ _ I.fresh ⟨_, rfl⟩⟩
theorem sl_any : SlR X (fun x lo hi H Q => rSlL X.K x lo hi H Q ∨ rSlF M X x lo hi H Q) := sl_list.or sl_tupF
theorem pu_slice {e : Expr} {lo hi : Option Expr} {p2 : Pos} {t : DT} {tl th : Option DT} (he : PuB M W X e t) (hl : PuO1 M W X lo tl) (hh : PuO1 M W X hi th) : PuE M W X (.Subscript e (.Slice lo hi none p2) pos) (dSl t tl th) :=
  PEimp (pe_slice sl_any he (po_of hl) (po_of hh)) fun σ H QV ⟨H0, F, ρ, Q, E, k, ht, q, e⟩ => by
    refine ⟨H0, F, ρ, _, E, k, ht, fun v H1 F1 d g1 r1 h1 => ?_, e⟩
    refine part_imp (k.grow g1) h1 (fun l H2 F2 g2 h2 => ?_) fun x c dx H' F' g => e x c dx H' F' (g1.trans g)
    have g12 := g1.trans g2
    refine part_imp (k.grow g12) h2 (fun u H3 F3 g3 h3 => ?_) fun x c dx H' F' g => e x c dx H' F' (g12.trans g)
    have g13 := g12.trans g3
    have r3 := r1.grow (g2.trans g3)
    obtain ⟨dz, ez, h3⟩ := Ret.of h3
    unfold slD at ez
    split at ez
    · rename_i ds
      cases ez
      obtain ⟨a, vs, rfl, _, sq, rl⟩ := arep_lst r3
      exact .inl ⟨a, vs, rfl, sq, new_lst g3.self (rl.cut l u) fun v H' F' g r => q v H' F' _ (g13.trans g) r h3⟩
    · rename_i ds
      cases ez
      exact .inr ⟨F3, ds, g3.self, r3, fun v H' F' g r => q v H' F' _ (g13.trans g) r h3⟩
    · exact ez.elim
/-- a slice of a list, one's own -/
def dSlO (t : DT) (lo hi : Option DT) : DT := fun ρ Q E => t ρ (fun x => dOptI lo ρ (fun l => dOptI hi ρ (fun h => match x with | .lst ds => Q (.lst (cutD ds l h)) | _ => False) E) E) E
theorem puo_slice {e : Expr} {lo hi : Option Expr} {p2 : Pos} {t : DT} {tl th : Option DT} (he : PuB M W X e t) (hl : PuO1 M W X lo tl) (hh : PuO1 M W X hi th) : PuO M W X (.Subscript e (.Slice lo hi none p2) pos) (dSlO t tl th) :=
  PEimp (pe_slice sl_list he (po_of hl) (po_of hh)) fun σ H QV ⟨H0, F, ρ, Q, E, k, ht, q, e⟩ => by
    refine ⟨H0, F, ρ, _, E, k, ht, fun v H1 F1 d g1 r1 h1 => ?_, e⟩
    refine part_imp (k.grow g1) h1 (fun l H2 F2 g2 h2 => ?_) fun x c dx H' F' g => e x c dx H' F' (g1.trans g)
    have g12 := g1.trans g2
    refine part_imp (k.grow g12) h2 (fun u H3 F3 g3 h3 => ?_) fun x c dx H' F' g => e x c dx H' F' (g12.trans g)
    have g13 := g12.trans g3
    have r3 := r1.grow (g2.trans g3)
    split at h3
    · rename_i ds
      obtain ⟨a, vs, rfl, _, sq, rl⟩ := arep_lst r3
      exact ⟨a, vs, rfl, sq, new_own g3.self (rl.cut l u) fun a H' F' g n nF r => q a H' F' _ (g13.trans g) (g13.free g13.inv n) nF r h3⟩
    · exact h3.elim

/-! ### isinstance with a built-in class -/
def isiD (T : String) (ds : List D) : Ret := match ds with
  | [.non, .ty _] => .ok (.bl false)
  | [.bl _, .ty T] => .ok (.bl (T == "bool" || T == "int"))
  | [.int _, .ty T] => .ok (.bl (T == "int"))
  | [.str _, .ty T] => .ok (.bl (T == "str"))
  | [.tup _, .ty T] => .ok (.bl (T == "tuple"))
  | [.lst _, .ty T] => .ok (.bl (T == "list"))
  | [.dct _ _, .ty T] => .ok (.bl (T == "dict"))
  | _ => .no
/-- the five classes that are asked for -/
def tys : List String := ["int", "bool", "str", "tuple", "list", "dict"]
def isiR (ds : List D) : Ret := match ds with
  | [.non, .ty T] => .cond (T ∈ tys) (.bl false)
  | [.bl _, .ty T] => .cond (T ∈ tys) (.bl (T == "bool" || T == "int"))
  | [.int _, .ty T] => .cond (T ∈ tys) (.bl (T == "int"))
  | [.str _, .ty T] => .cond (T ∈ tys) (.bl (T == "str"))
  | [.tup _, .ty T] => .cond (T ∈ tys) (.bl (T == "tuple"))
  | [.lst _, .ty T] => .cond (T ∈ tys) (.bl (T == "list"))
  | [.dct _ _, .ty T] => .cond (T ∈ tys) (.bl (T == "dict"))
  | _ => .no
theorem kit_non {T : String} (h : T ∈ tys) : kitB "NoneType" T = some false := by
  simp only [tys, List.mem_cons, List.mem_nil_iff, or_false] at h
  rcases h with h | h | h | h | h | h <;> subst h <;> decide +kernel
theorem kit_bool {T : String} (h : T ∈ tys) : kitB "bool" T = some (T == "bool" || T == "int") := by
  simp only [tys, List.mem_cons, List.mem_nil_iff, or_false] at h
  rcases h with h | h | h | h | h | h <;> subst h <;> decide +kernel
theorem kit_int {T : String} (h : T ∈ tys) : kitB "int" T = some (T == "int") := by
  simp only [tys, List.mem_cons, List.mem_nil_iff, or_false] at h
  rcases h with h | h | h | h | h | h <;> subst h <;> decide +kernel
theorem kit_str {T : String} (h : T ∈ tys) : kitB "str" T = some (T == "str") := by
  simp only [tys, List.mem_cons, List.mem_nil_iff, or_false] at h
  rcases h with h | h | h | h | h | h <;> subst h <;> decide +kernel
theorem kit_tuple {T : String} (h : T ∈ tys) : kitB "tuple" T = some (T == "tuple") := by
  simp only [tys, List.mem_cons, List.mem_nil_iff, or_false] at h
  rcases h with h | h | h | h | h | h <;> subst h <;> decide +kernel
theorem kit_list {T : String} (h : T ∈ tys) : kitB "list" T = some (T == "list") := by
  simp only [tys, List.mem_cons, List.mem_nil_iff, or_false] at h
  rcases h with h | h | h | h | h | h <;> subst h <;> decide +kernel
theorem kit_dict {T : String} (h : T ∈ tys) : kitB "dict" T = some (T == "dict") := by
  simp only [tys, List.mem_cons, List.mem_nil_iff, or_false] at h
  rcases h with h | h | h | h | h | h <;> subst h <;> decide +kernel
theorem cd_isi : CallR X (.builtin "isinstance") (rDL M X isiR) := by
  intro pins s σ H xs us Q I r ⟨F, ds, dz, g, rl, e, q⟩
  have fin : ∀ {x : V} {T S : String} {b : Bool}, xs = [x, .ty T] → TyX X.K H x (.type S) → kitB S T = some b → Q (.bl b) H → wpAny (model X.prog X.w) X.A (call (.builtin "isinstance") us) (EP X pins σ Q) X.xe s := fun {x T S b} e1 ty kb hq => by
    subst e1
    exact call_isi pins s σ H _ us Q I r ⟨x, .ty T, .type S, .type T, b, rfl, .ty T, ty, kit_ty kb, hq⟩
  unfold isiR at e
  split at e
  all_goals first
    | exact e.elim
    | skip
  all_goals
    obtain ⟨hc, rfl⟩ := e
    obtain ⟨x, y, rfl, r1, r2⟩ := rl.two
    have r2 : y = V.ty _ := r2
    subst r2
  · have r1 : x = V.non := r1
    subst r1
    exact fin rfl (.base .non) (kit_non hc) (q _ H F g rfl)
  · have r1 : x = V.bl _ := r1
    subst r1
    exact fin rfl (.base (.bl _)) (kit_bool hc) (q _ H F g rfl)
  · have r1 : x = V.int _ := r1
    subst r1
    exact fin rfl (.base (.int _)) (kit_int hc) (q _ H F g rfl)
  · have r1 : x = V.str _ := r1
    subst r1
    exact fin rfl (.base (.str _)) (kit_str hc) (q _ H F g rfl)
  · obtain ⟨a, vs, rfl, sq, _⟩ := arep_tup g.inn r1
    refine fin rfl ?_ (kit_tuple hc) (q _ H F g rfl)
    rcases sq with (h | ⟨o, h⟩) | ⟨o, its, n, hk, hcls, _⟩
    · exact .base (.tup h)
    · exact .fTuple h
    · exact .kTuple hk hcls
  · obtain ⟨a, vs, rfl, h, _⟩ := arep_lst r1
    exact fin rfl (.base (.lst h)) (kit_list hc) (q _ H F g rfl)
  · obtain ⟨a, kvs, rfl, _, h, _⟩ := r1
    refine fin rfl ?_ (kit_dict hc) (q _ H F g rfl)
    rcases h with h | ⟨o, h⟩
    · exact .base (.dK h)
    · exact .fDict h
/-- a built-in class as a value -/
theorem pu_ty {x : Str} {T : String} {p : Pos} (hg : Gl X x) (hm : X.mg x = none) (hv : bootBuiltins x = some (.type T)) (hn : x ≠ "__name__" := by decide) (hd : (x == ("__debug__" : Str)) = false := by decide) : PuE M W X (.Name x p) (dC (.ty T)) :=
  pu_const (pe_bltn (v := .ty T) hg hm hv rfl hn hd) fun _ => rfl
/-- a module's def or class as a value -/
theorem pu_glo {x : Str} {a : Addr} {p : Pos} (hg : Gl X x) (hm : X.mg x = some (.ref a)) (hd : (x == ("__debug__" : Str)) = false := by decide) : PuE M W X (.Name x p) (dC (.glo x)) :=
  pu_const (pe_glob (v := .ref a) hg hm rfl hd) fun _ => ⟨a, rfl, hm⟩
theorem pu_gint {x : Str} {i : Int} {p : Pos} (hg : Gl X x) (hm : ∃ t, X.mg x = some (.int i t)) (hd : (x == ("__debug__" : Str)) = false := by decide) : PuE M W X (.Name x p) (dC (.int i)) := by
  obtain ⟨t, hm⟩ := hm
  exact pu_const (pe_glob (v := .int i) hg hm ⟨t, rfl⟩ hd) fun _ => rfl
theorem pu_gstr {x : Str} {i : Str} {p : Pos} (hg : Gl X x) (hm : ∃ t, X.mg x = some (.str i t)) (hd : (x == ("__debug__" : Str)) = false := by decide) : PuE M W X (.Name x p) (dC (.str i)) := by
  obtain ⟨t, hm⟩ := hm
  exact pu_const (pe_glob (v := .str i) hg hm ⟨t, rfl⟩ hd) fun _ => rfl
end
end PL
set_option Elab.async false
set_option linter.all false
set_option maxRecDepth 100000
namespace PL
open PySem PySem.Spec PyProof.Rows L2

/-! ### enumerate and zip over lists and tuples -/
inductive Sk where
  | L | T
def SeqIt : Sk → Heap → Addr → Addr → Nat → Prop
  | .L, h, it, a, i => h.IsListIter it a i
  | .T, h, it, a, i => h.IsTupleIter it a i
def IsSq : Sk → Heap → Addr → Array Value → Prop
  | .L, h, a, vs => h.IsList a vs
  | .T, h, a, vs => h.IsTuple a vs
def SqO : Sk → PySem.W.Frag → Hp → Addr → List V → Prop
  | .L, K, H, a, xs => SqL K H a xs
  | .T, K, H, a, xs => SqT K H a xs
theorem SqO.mono {k : Sk} {K : PySem.W.Frag} {F H : Hp} (s : Sub F H) {a : Addr} {xs : List V} (h : SqO k K F a xs) : SqO k K H a xs := by
  cases k with
  | L => exact s.seqL h
  | T => exact s.seqT h
section
variable {X : Cx} {pins : List (Addr × Obj)} {σ : L2.St} {H : Hp} {s : Shared}
theorem sqo_read (I : L2.Inv X pins σ H s) {k : Sk} {a : Addr} {xs : List V} (h : SqO k X.K H a xs) : ∃ its, Vals xs its ∧ IsSq k s.heap a its.toArray ∧ xs.length ≤ sizeLine := by
  cases k with
  | L =>
    obtain ⟨its, r, p, z⟩ := I.list h
    exact ⟨its, r, p.isList, z⟩
  | T =>
    obtain ⟨its, r, p, z⟩ := I.tuple h
    exact ⟨its, r, p, z⟩
theorem sqo_inj (I : L2.Inv X pins σ H s) {k : Sk} {a : Addr} {xs ys : List V} (h : SqO k X.K H a xs) (h' : SqO k X.K H a ys) : xs = ys := by
  cases k with
  | L => exact I.list_inj h h'
  | T => exact I.tuple_inj h h'
end
theorem IsSq.lt {k : Sk} {h : Heap} {a : Addr} {vs : Array Value} (x : IsSq k h a vs) : a < h.objs.size := by
  cases k with
  | L => obtain ⟨o, e, _⟩ := x; exact Heap.lt_size e
  | T => obtain ⟨o, e, _⟩ := x; exact Heap.lt_size e
theorem SeqIt.lt {k : Sk} {h : Heap} {a it : Addr} {i : Nat} (x : SeqIt k h it a i) : it < h.objs.size := by
  cases k with
  | L => obtain ⟨o, e, _⟩ := x; exact Heap.lt_size e
  | T => obtain ⟨o, e, _⟩ := x; exact Heap.lt_size e
theorem SeqIt.obj {k : Sk} {h : Heap} {a it : Addr} {i : Nat} (x : SeqIt k h it a i) : ∃ o, h.get? it = some o ∧ ∀ v, o.data ≠ .cell v := by
  cases k with
  | L => obtain ⟨o, e, _, d⟩ := x; exact ⟨o, e, fun v q => by rw [d] at q; cases q⟩
  | T => obtain ⟨o, e, _, d⟩ := x; exact ⟨o, e, fun v q => by rw [d] at q; cases q⟩
theorem SeqIt.at {k : Sk} {h h' : Heap} {a it : Addr} {i : Nat} (x : SeqIt k h it a i) (q : ∀ o, h.get? it = some o → h'.get? it = some o) : SeqIt k h' it a i := by
  cases k with
  | L => obtain ⟨o, e, r⟩ := x; exact ⟨o, q o e, r⟩
  | T => obtain ⟨o, e, r⟩ := x; exact ⟨o, q o e, r⟩
theorem draws_sq (k : Sk) {prog : Program} {w : World} {A : Around} (hh : A.handled = none) (it a : Addr) (hne : a ≠ it) (items : Array Value) :
    Draws prog w A it [it, a] items.size (fun i v => items[i]? = some v) (fun i h => SeqIt k h it a i ∧ IsSq k h a items) := by
  cases k with
  | L => exact Draws.list hh it a hne items
  | T => exact Draws.tuple hh it a hne items
def oIt (k : Sk) (a : Addr) : Obj := match k with
  | .L => { cls := .type "list_iterator", data := .fields #[.ref a, .int 0 0] }
  | .T => { cls := .type "tuple_iterator", data := .fields #[.ref a, .int 0 0] }
theorem begins_sq (k : Sk) (a : Addr) (items : Array Value) : Begins (.ref a) (oIt k a) fun h => IsSq k h a items := by
  cases k with
  | L => exact begins_list a items
  | T => exact begins_tuple a items
theorem seqIt_new {k : Sk} {h : Heap} {a it : Addr} (e : h.get? it = some (oIt k a)) : SeqIt k h it a 0 := by
  cases k with
  | L => exact ⟨_, e, rfl, rfl⟩
  | T => exact ⟨_, e, rfl, rfl⟩
set_option maxHeartbeats 1000000 in
theorem meets_enum1 {v : Value} {o : Obj} {H : Heap → Prop} (B : Begins v o H) :
    Meets (Builtin.«enumerate.__new__» ⟨[.type "enumerate", v], []⟩) (fun _ R s => H s.heap ∧
      R (.ok (.ret (.ref (s.heap.push o).objs.size))) { s with heap := (s.heap.push o).push { cls := .type "enumerate", data := .fields #[.none, .bool false, .ref s.heap.objs.size, rawInt 0, .none, .none] } }) :=
  .of_wp fun prog w A R s h => by
    obtain ⟨hp, g, d, tk, os⟩ := s; obtain ⟨h1, h⟩ := h
    have hsub := sub_enumerate
    have q1 : ∀ {A' : Around} {E : Value → Shared → Prop} {Q : Value → Shared → Prop}, Q (.ref hp.objs.size) ⟨hp.push o, g, d, tk, os⟩ → wpAny (model prog w) A' (pyIter v) Q E ⟨hp, g, d, tk, os⟩ :=
      fun q => B.iter prog w _ _ ⟨hp, g, d, tk, os⟩ _ h1 q
    wp_walk using q1
    refine wpAny_stack_any fun st => wpAny_pure ?_
    split
    · rename_i c _ _ _ _ _
      cases (c == Value.type "enumerate")
      · wp_walk using q1
        exact ⟨_, rfl, h⟩
      · wp_walk using q1
        exact ⟨_, rfl, h⟩
    · wp_walk using q1
      exact ⟨_, rfl, h⟩
theorem call_enum1 {prog : Program} {w : World} {A : Around} {E : Value → Shared → Prop} {s : Shared} {v : Value} {o : Obj} {H : Heap → Prop} {Q : Value → Shared → Prop} (B : Begins v o H) (h1 : H s.heap)
    (h : ∀ h', IsEnum h' (s.heap.objs.size + 1) s.heap.objs.size 0 .none → h'.get? s.heap.objs.size = some o → h'.objs.size = s.heap.objs.size + 2 →
      (∀ b o, s.heap.get? b = some o → h'.get? b = some o) → Q (.ref (s.heap.objs.size + 1)) { s with heap := h' }) :
    wpAny (model prog w) A (call (.type "enumerate") [v]) Q E s := by
  refine callType_new F.called_enumerate (by decide) (F.typeCall_enumerate_1 _) (F.newCall_enumerate_1 _) (fun obj => F.args_object_init_2 obj _) F.entry_enumerate_new
    (meets_enum1 B) ⟨h1, ?_⟩
  have hz : (s.heap.push o).objs.size = s.heap.objs.size + 1 := Heap.size_push ..
  show _ ∧ _
  rw [hz]
  have he : IsEnum ((s.heap.push o).push { cls := .type "enumerate", data := .fields #[.none, .bool false, .ref s.heap.objs.size, rawInt 0, .none, .none] }) (s.heap.objs.size + 1) s.heap.objs.size 0 .none := by
    have := Heap.get?_push_size (s.heap.push o) (o := { cls := .type "enumerate", data := .fields #[.none, .bool false, .ref s.heap.objs.size, rawInt 0, .none, .none] }) rfl
    rw [hz] at this; exact this
  refine ⟨⟨_, he, rfl⟩, h _ he (Heap.get?_push_of_some _ (Heap.get?_push_size _ B.free)) (by rw [Heap.size_push, hz]) fun b o x => Heap.get?_push_of_some _ (Heap.get?_push_of_some _ x)⟩
/-- each item in a new pair with its number -/
def ItE (k : Sk) (K : PySem.W.Frag) (a : Addr) : It :=
  ⟨fun i H => ∃ (xs : List V) (x : V), SqO k K H a xs ∧ xs[i]? = some x, fun i H v H' => ∃ T x, v = .ref T ∧ H T = none ∧ (∃ o, TupO o ∧ H' = upd H T (.frz o (.tup [.int (i : Nat), x]))) ∧ ∀ xs, SqO k K H a xs → xs[i]? = some x, fun i H => ∃ xs : List V, SqO k K H a xs ∧ xs.length ≤ i ∧ i ≤ xs.length⟩
theorem turn_enumK {P : Program} {w : World} {K : PySem.W.Frag} {elts : List Expr} {kk : Nat} {tpos : Pos} (k : Sk) (a e it : Addr) (hai : a ≠ it) (hei : e ≠ it) (hea : e ≠ a) :
    Turn P w K (.Tuple elts kk tpos) (ItE k K a) [e, it] e (fun i h => (∃ old, IsEnum h e it ((i : Nat) : Int) old) ∧ SeqIt k h it a i) where
  mem := by simp
  obj := fun i h st b hb => by
    obtain ⟨⟨old, he⟩, hs⟩ := st
    have e' : b = e ∨ b = it := by simpa using hb
    rcases e' with z | z
    · rw [z]; exact ⟨_, he, fun v q => nomatch q⟩
    · rw [z]; exact hs.obj
  keep := fun i h h' st kp => let ⟨⟨old, he⟩, hi⟩ := st; ⟨⟨old, kp e (by simp) _ he⟩, hi.at fun o q => kp it (by simp) o q⟩
  item := by
    intro X hP hw hK hc i pins s σ H E I hf st hg
    subst hP hw hK
    obtain ⟨⟨old, he⟩, hit⟩ := st
    obtain ⟨xs, x, hq, hx⟩ := hg
    obtain ⟨its, rv, p, hz⟩ := sqo_read I hq
    obtain ⟨u, hu, ru⟩ := rv.get hx
    have hel : e < s.heap.objs.size := Heap.lt_size he
    have hil : it < s.heap.objs.size := hit.lt
    have hi : i < its.toArray.size := by
      have := (List.getElem?_eq_some_iff.mp hu).1
      simpa using this
    refine wpAny_pyNext_enum_itemC (draws_sq k (A := X.A.in1) (I.ok.hd hc) it a hai its.toArray) he ⟨hit, p⟩ hi hei (by simp [hei, hea]) fun y h' tk hy ho hst hT hsz hk => ?_
    have ey : y = u := by
      have hy' : its.toArray[i]? = some y := hy
      have : its[i]? = some y := by simpa using hy'
      rw [hu] at this; exact (Option.some.inj this).symm
    subst ey
    refine ⟨_, rfl, wpAny_letOwnedTupleGo_enum (s := { s with heap := h', toks := tk + 1 }) ho fun h'' he' sb => ?_⟩
    have hT2 : h''.get? s.heap.objs.size = some { cls := .type "tuple", data := .seq #[.int i tk, y] } := (sb.2 _ (Nat.ne_of_gt hel)).trans hT
    have new : ObjOk X.prog X.w (upd H s.heap.objs.size (.frz { cls := .type "tuple", data := .seq #[.int i tk, y] } (.tup [.int (i : Nat), x]))) h'' s.heap.objs.size (.frz { cls := .type "tuple", data := .seq #[.int i tk, y] } (.tup [.int (i : Nat), x])) :=
      ⟨hT2, by show 2 ≤ sizeLine; decide, [.int i tk, y], .cons ⟨_, rfl⟩ (.cons ru .nil), ⟨_, hT2, rfl, _, rfl⟩⟩
    have I1 : L2.Inv X pins σ (upd H s.heap.objs.size (.frz { cls := .type "tuple", data := .seq #[.int i tk, y] } (.tup [.int (i : Nat), x]))) { s with heap := h'', toks := tk + 1 } :=
      I.turnedNew (ch := [e, it]) (fun b ob hb q => (sb.2 b (fun z => hb (by simp [z]))).trans (hk b ob (fun z => hb (by simp [z])) (fun z => hb (by simp [z])) q)) hf (Nat.le_refl _) new
    refine ⟨.ref s.heap.objs.size, _, I1, rfl, ⟨_, x, rfl, I.hok.fresh (Nat.le_refl _), ⟨_, ⟨_, rfl⟩, rfl⟩, fun ys hy => by rw [sqo_inj I hy hq]; exact hx⟩, ⟨⟨y, ?_⟩, hst.1.at fun o q => (sb.2 it (Ne.symm hei)).trans q⟩, fun b hb => ?_⟩
    · have e1 : ((i + 1 : Nat) : Int) = (i : Int) + 1 := by omega
      rw [e1]; exact he'
    · have hb' : b < s.heap.objs.size := by
        have e' : b = e ∨ b = it := by simpa using hb
        rcases e' with z | z
        · rw [z]; exact hel
        · rw [z]; exact hil
      rw [upd_ne (Nat.ne_of_lt hb')]
      exact (hf b hb).1
  done := by
    intro X hP hw hK hc i pins s σ H E I hf st hg
    subst hP hw hK
    obtain ⟨⟨old, he⟩, hit⟩ := st
    obtain ⟨xs, hq, hx1, hx2⟩ := hg
    obtain ⟨its, rv, p, hz⟩ := sqo_read I hq
    obtain ⟨f0, f1, f2, f3, f4, f5⟩ := hf it (by simp)
    have hl := rv.length
    have ei : i = its.toArray.size := by simp; omega
    subst ei
    exact wpAny_pyNext_enum_endD (draws_sq k (A := X.A.in1) (I.ok.hd hc) it a hai its.toArray) he ⟨hit, p⟩ fun h' eb => ⟨rfl, I.turned (t' := s.toks) (fun b o hb q => eb b o hb q) f0 f1 f3 f4 f5⟩
  self := fun A i s Q E st h => let ⟨⟨_, he⟩, _⟩ := st; wpAny_pyIter_enum he h
section
variable {M : Am} {W : WX} {X : Cx} {pos : Pos}
/-- a list or a tuple by its datum -/
def seqD : D → Option (Sk × List D)
  | .lst ds => some (.L, ds)
  | .tup ds => some (.T, ds)
  | _ => none
theorem arep_seq {K : PySem.W.Frag} {mg : Str → Option Value} {F H : Hp} (s : Sub F H) {d : D} {k : Sk} {ds : List D} {v : V} (e : seqD d = some (k, ds)) (r : ARep K mg M F H d v) : ∃ a vs, v = .ref a ∧ SqO k K H a vs ∧ RepL K mg M F ds vs := by
  cases d <;> first
    | (cases e; done)
    | skip
  case lst xs =>
    cases e
    obtain ⟨a, vs, rfl, _, sq, rl⟩ := arep_lst r
    exact ⟨a, vs, rfl, sq, rl⟩
  case tup xs =>
    cases e
    obtain ⟨a, vs, rfl, sq, rl⟩ := arep_tup s r
    exact ⟨a, vs, rfl, sq, rl⟩
/-- .. that is frozen -/
theorem rep_seq {K : PySem.W.Frag} {mg : Str → Option Value} {F : Hp} {d : D} {k : Sk} {ds : List D} {v : V} (e : seqD d = some (k, ds)) (r : Rep K mg M F d v) : ∃ a vs, v = .ref a ∧ SqO k K F a vs ∧ RepL K mg M F ds vs := by
  cases d <;> first
    | (cases e; done)
    | skip
  case lst xs =>
    cases e
    obtain ⟨a, vs, rfl, sq, rl⟩ := r
    exact ⟨a, vs, rfl, .inl (.inl sq), rl⟩
  case tup xs =>
    cases e
    obtain ⟨a, vs, rfl, sq, rl⟩ := rep_tup r
    exact ⟨a, vs, rfl, sq, rl⟩
def enumL (ds : List D) : List D := ds.mapIdx fun i d => .tup [.int (i : Nat), d]
theorem iters_enum {k : Sk} {a : Addr} {vs : List V} {ds : List D} {F : Hp} {K : PySem.W.Frag} {mg : Str → Option Value} (h : SqO k K F a vs) (r : RepL K mg M F ds vs) : Iters K mg M (ItE k K a) F (enumL ds) := fun F' H' g s => by
  have hq : SqO k K H' a vs := h.mono (s.trans g.inn)
  refine ⟨fun i d e => ?_, ⟨vs, hq, by simp [enumL, r.length], by simp [enumL, r.length]⟩⟩
  unfold enumL at e
  rw [List.getElem?_mapIdx] at e
  cases e0 : ds[i]? with
  | none => rw [e0] at e; cases e
  | some d0 =>
    rw [e0] at e; cases e
    obtain ⟨v, e1, r1⟩ := r.get e0
    refine ⟨⟨vs, v, hq, e1⟩, fun x H'' y => ?_⟩
    obtain ⟨T, x0, rfl, nT, ⟨o, to, rfl⟩, f⟩ := y
    have e2 := f vs hq
    rw [e1] at e2; cases e2
    refine ⟨upd F' T (.frz o (.tup [.int (i : Nat), v])), g.laid _ nT, T, o, _, rfl, upd_same, to, ?_⟩
    exact RepL.mono (upd_sub (g.noF nT)) _ (.cons (d := .int (i : Nat)) rfl (.cons (Rep.mono s _ r1) rfl))
def iEnumD (t : DT) : DI := fun ρ Q E => t ρ (fun d => match seqD d with | some (_, ds) => Q (enumL ds) | none => False) E
theorem pui_enum {e : Expr} {t : DT} {p pos tpos : Pos} {elts : List Expr} {kk : Nat} (hg : Gl X "enumerate") (hm : X.mg "enumerate" = none) (he : PuE M W X e t) (hs : starEach [e] X.env = [(false, eval e X.env)] := by rfl) :
    PuI M W X (.Tuple elts kk tpos) (.Call (.Name "enumerate" p) [e] [] pos) (iEnumD t) := ⟨fun pins s σ H R I ⟨H0, F, ρ, Q, E, k, ht, q, ee⟩ => by
  refine Call_ (ld_blt I hg hm boot_enumerate (PyProof.Rows.callWith_type1 (thn ((pa_cons he pa_nil hs).run pos pins s σ H (fun vs H1 => ∃ v F1 d, vs = [v] ∧ Gr M F H F1 H1 ∧ Rep X.K X.mg M F1 d v ∧ (match seqD d with | some (_, ds) => Q (enumL ds) | none => False)) I ⟨H0, F, ρ, _, E, k, ht, fun v H1 F1 d g r hq => ⟨v, F1, d, rfl, g, r, hq⟩, ee⟩) fun us s1 ⟨vs, H1, I1, r1, q1⟩ => ?_) hs rfl))
  obtain ⟨v, F1, d, rfl, g, r, hq⟩ := q1
  split at hq
  · rename_i kd ds ed
    obtain ⟨a, vs, rfl, sq, rl⟩ := rep_seq ed r
    cases r1 with
    | cons rr rt =>
      cases rt
      cases rr
      obtain ⟨its, rv, p', hz⟩ := sqo_read I1 (sq.mono g.inn)
      have la := p'.lt
      have fin : ∀ h' : Heap, IsEnum h' (s1.heap.objs.size + 1) s1.heap.objs.size 0 .none → SeqIt kd h' s1.heap.objs.size a 0 → h'.objs.size = s1.heap.objs.size + 2 → (∀ b o, s1.heap.get? b = some o → h'.get? b = some o) →
          wpAny (model X.prog X.w) X.A (pyIter (.ref (s1.heap.objs.size + 1))) (PIE X pins σ (.Tuple elts kk tpos) R) X.xe { s1 with heap := h' } := fun h' he' hit hsz hk => wpAny_pyIter_enum he' (by
        have I2 : L2.Inv X pins σ H1 { s1 with heap := h' } := I1.kept (t' := s1.toks) hk
        refine ⟨s1.heap.objs.size + 1, [s1.heap.objs.size + 1, s1.heap.objs.size], _, _, H1, rfl, I2, turn_enumK kd a (s1.heap.objs.size + 1) s1.heap.objs.size (Nat.ne_of_lt la) (Nat.succ_ne_self _) (Nat.ne_of_gt (Nat.lt_succ_of_lt la)), ⟨⟨.none, he'⟩, hit⟩, fun b hb => ?_, q _ H1 F1 _ g (iters_enum sq rl) hq⟩
        have e' : b = s1.heap.objs.size + 1 ∨ b = s1.heap.objs.size := by simpa using hb
        have hle : s1.heap.objs.size ≤ b := by
          rcases e' with z | z
          · rw [z]; exact Nat.le_add_right _ _
          · rw [z]; exact Nat.le_refl _
        exact I1.fpOk hle (I1.hok.fresh hle))
      exact call_enum1 (begins_sq kd a its.toArray) p' fun h' he' hit hsz hk => fin h' he' (seqIt_new hit) hsz hk
  · exact hq.elim⟩

/-! ### zip -/
end
theorem sq_ne {k : Sk} {h : Heap} {a it : Addr} {i : Nat} {vs : Array Value} (h1 : SeqIt k h it a i) (p : IsSq k h a vs) : a ≠ it := fun q => by
  obtain ⟨o, e, c, _⟩ : ∃ o, h.get? it = some o ∧ (o.cls = .type "list_iterator" ∨ o.cls = .type "tuple_iterator") ∧ True := by
    cases k with
    | L => obtain ⟨o, e, c, _⟩ := h1; exact ⟨o, e, .inl c, trivial⟩
    | T => obtain ⟨o, e, c, _⟩ := h1; exact ⟨o, e, .inr c, trivial⟩
  obtain ⟨o', e', c'⟩ : ∃ o, h.get? a = some o ∧ (o.cls = .type "list" ∨ o.cls = .type "tuple") := by
    cases k with
    | L => obtain ⟨o, e, c, _⟩ := p; exact ⟨o, e, .inl c⟩
    | T => obtain ⟨o, e, c, _⟩ := p; exact ⟨o, e, .inr c⟩
  rw [q, e] at e'
  cases e'
  rcases c with c | c <;> rcases c' with c' | c' <;> (rw [c] at c'; exact absurd c' (by decide))
/-- the items at a and b in new pairs -/
def ItZ (k l : Sk) (K : PySem.W.Frag) (a b : Addr) : It :=
  ⟨fun i H => ∃ (xs ys : List V) (x y : V), SqO k K H a xs ∧ SqO l K H b ys ∧ xs[i]? = some x ∧ ys[i]? = some y,
    fun i H v H' => ∃ T x y, v = .ref T ∧ H T = none ∧ (∃ o, TupO o ∧ H' = upd H T (.frz o (.tup [x, y]))) ∧ (∀ xs, SqO k K H a xs → xs[i]? = some x) ∧ ∀ ys, SqO l K H b ys → ys[i]? = some y,
    fun i H => ∃ xs ys : List V, SqO k K H a xs ∧ SqO l K H b ys ∧ i = min xs.length ys.length⟩
theorem turn_zipK {P : Program} {w : World} {K : PySem.W.Frag} {elts : List Expr} {kk : Nat} {tpos : Pos} {k l : Sk} {a b z TI TO i1 i2 : Addr} (S : ZipSep2 z TI TO i1 i2 [i1, a] [i2, b]) :
    Turn P w K (.Tuple elts kk tpos) (ItZ k l K a b) [z, TI, TO, i1, i2] z (fun i h => IsZip h z TI TO .none ∧ IsTupOf2 h TI (.ref i1) (.ref i2) ∧ (∃ x y, IsTupOf2 h TO x y) ∧ SeqIt k h i1 a i ∧ SeqIt l h i2 b i) where
  mem := by simp
  obj := fun i h st c hc => by
    obtain ⟨hz, hTI, ⟨x, y, hTO⟩, h1, h2⟩ := st
    have e' : c = z ∨ c = TI ∨ c = TO ∨ c = i1 ∨ c = i2 := by simpa using hc
    rcases e' with q | q | q | q | q
    · rw [q]; exact ⟨_, hz, fun v q => nomatch q⟩
    · rw [q]; exact ⟨_, hTI, fun v q => nomatch q⟩
    · rw [q]; exact ⟨_, hTO, fun v q => nomatch q⟩
    · rw [q]; exact h1.obj
    · rw [q]; exact h2.obj
  keep := fun i h h' st kp => by
    obtain ⟨hz, hTI, ⟨x, y, hTO⟩, h1, h2⟩ := st
    exact ⟨kp z (by simp) _ hz, kp TI (by simp) _ hTI, ⟨x, y, kp TO (by simp) _ hTO⟩, h1.at fun o q => kp i1 (by simp) o q, h2.at fun o q => kp i2 (by simp) o q⟩
  item := by
    intro X hP hw hK hc i pins s σ H E I hf st hg
    subst hP hw hK
    obtain ⟨hz, hTI, ⟨x0, y0, hTO⟩, h1, h2⟩ := st
    obtain ⟨xs, ys, x, y, hqx, hqy, hx, hy⟩ := hg
    obtain ⟨its, rv, p, _⟩ := sqo_read I hqx
    obtain ⟨its2, rv2, p2, _⟩ := sqo_read I hqy
    obtain ⟨u, hu, ru⟩ := rv.get hx
    obtain ⟨u2, hu2, ru2⟩ := rv2.get hy
    have hzl : z < s.heap.objs.size := Heap.lt_size hz
    have ha1 : a ≠ i1 := sq_ne h1 p
    have hb2 : b ≠ i2 := sq_ne h2 p2
    have hi : i < its.toArray.size := by
      have := (List.getElem?_eq_some_iff.mp hu).1
      simpa using this
    have hi2 : i < its2.toArray.size := by
      have := (List.getElem?_eq_some_iff.mp hu2).1
      simpa using this
    refine wpAny_pyNext_zipD2_item S (draws_sq k (A := X.A.in1) (I.ok.hd hc) i1 a ha1 its.toArray) (draws_sq l (A := X.A.in1) (I.ok.hd hc) i2 b hb2 its2.toArray) hz hTI hTO ⟨h1, p⟩ ⟨h2, p2⟩ hi hi2 fun y1 y2 h' tk e1 e2 z' TO' s1' s2' hT hsz hk => ?_
    have ey : y1 = u := by
      have : its[i]? = some y1 := by simpa using e1
      rw [hu] at this; exact (Option.some.inj this).symm
    have ey2 : y2 = u2 := by
      have : its2[i]? = some y2 := by simpa using e2
      rw [hu2] at this; exact (Option.some.inj this).symm
    subst ey ey2
    refine ⟨_, rfl, wpAny_letOwnedTupleGo_zip (s := { s with heap := h', toks := tk }) z' fun h'' z'' sb => ?_⟩
    have hT2 : h''.get? s.heap.objs.size = some { cls := .type "tuple", data := .seq #[y1, y2] } := (sb.2 _ (Nat.ne_of_gt hzl)).trans hT
    have new : ObjOk X.prog X.w (upd H s.heap.objs.size (.frz { cls := .type "tuple", data := .seq #[y1, y2] } (.tup [x, y]))) h'' s.heap.objs.size (.frz { cls := .type "tuple", data := .seq #[y1, y2] } (.tup [x, y])) :=
      ⟨hT2, by show 2 ≤ sizeLine; decide, [y1, y2], .cons ru (.cons ru2 .nil), ⟨_, hT2, rfl, _, rfl⟩⟩
    have I1 : L2.Inv X pins σ (upd H s.heap.objs.size (.frz { cls := .type "tuple", data := .seq #[y1, y2] } (.tup [x, y]))) { s with heap := h'', toks := tk } :=
      I.turnedNew (ch := [z, TI, TO, i1, i2]) (fun c o hb q => (sb.2 c (fun q' => hb (by simp [q']))).trans (hk c o (fun q' => hb (by simp [q'])) (fun q' => hb (by simp [q'])) (fun q' => hb (by simp [q'])) (fun q' => hb (by simp [q'])) q)) hf (Nat.le_refl _) new
    have z1 : i1 ≠ z := fun q => S.zf1 (by simp [q])
    have z2 : i2 ≠ z := fun q => S.zf2 (by simp [q])
    refine ⟨.ref s.heap.objs.size, _, I1, rfl, ⟨_, x, y, rfl, I.hok.fresh (Nat.le_refl _), ⟨_, ⟨_, rfl⟩, rfl⟩, fun l' hl => by rw [sqo_inj I hl hqx]; exact hx, fun l' hl => by rw [sqo_inj I hl hqy]; exact hy⟩, ⟨z'', ?_, ⟨y1, y2, ?_⟩, ?_, ?_⟩, fun c hcm => ?_⟩
    · exact (sb.2 _ S.TIz).trans (hk _ _ S.TIz S.TITO S.TIi1 S.TIi2 hTI)
    · exact (sb.2 _ S.TOz).trans TO'
    · exact s1'.1.at fun o q => (sb.2 _ z1).trans q
    · exact s2'.1.at fun o q => (sb.2 _ z2).trans q
    · have hlt : c < s.heap.objs.size := by
        have e' : c = z ∨ c = TI ∨ c = TO ∨ c = i1 ∨ c = i2 := by simpa using hcm
        rcases e' with q | q | q | q | q
        · rw [q]; exact hzl
        · rw [q]; exact Heap.lt_size hTI
        · rw [q]; exact Heap.lt_size hTO
        · rw [q]; exact h1.lt
        · rw [q]; exact h2.lt
      rw [upd_ne (Nat.ne_of_lt hlt)]
      exact (hf c hcm).1
  done := by
    intro X hP hw hK hc i pins s σ H E I hf st hg
    subst hP hw hK
    obtain ⟨hz, hTI, ⟨x0, y0, hTO⟩, h1, h2⟩ := st
    obtain ⟨xs, ys, hqx, hqy, hend⟩ := hg
    obtain ⟨its, rv, p, _⟩ := sqo_read I hqx
    obtain ⟨its2, rv2, p2, _⟩ := sqo_read I hqy
    have l1 := rv.length
    have l2 := rv2.length
    have ha1 : a ≠ i1 := sq_ne h1 p
    have hb2 : b ≠ i2 := sq_ne h2 p2
    exact wpAny_pyNext_zipD2_end S (draws_sq k (A := X.A.in1) (I.ok.hd hc) i1 a ha1 its.toArray) (draws_sq l (A := X.A.in1) (I.ok.hd hc) i2 b hb2 its2.toArray) hz hTI hTO ⟨h1, p⟩ ⟨h2, p2⟩ (by simp; omega) (by simp; omega) (by simp; omega) fun h' tk hk => ⟨rfl, I.turnedL (t' := tk) (ch := [z, TI, TO, i1, i2]) (fun c o hb q =>
      hk c o (fun q' => hb (by simp [q'])) (fun q' => hb (by simp [q'])) (fun q' => hb (by simp [q'])) (fun q' => hb (by simp [q'])) q) hf⟩
  self := fun A i s Q E st h => wpAny_pyIter_zip st.1 h
section
variable {M : Am} {W : WX} {X : Cx} {pos : Pos}
def zipL (ds es : List D) : List D := (ds.zip es).map fun p => .tup [p.1, p.2]
theorem iters_zip {k l : Sk} {a b : Addr} {vs us : List V} {ds es : List D} {F : Hp} {K : PySem.W.Frag} {mg : Str → Option Value} (h : SqO k K F a vs) (r : RepL K mg M F ds vs) (h2 : SqO l K F b us) (r2 : RepL K mg M F es us) : Iters K mg M (ItZ k l K a b) F (zipL ds es) := fun F' H' g s => by
  have hq : SqO k K H' a vs := h.mono (s.trans g.inn)
  have hq2 : SqO l K H' b us := h2.mono (s.trans g.inn)
  refine ⟨fun i d e => ?_, ⟨vs, us, hq, hq2, by simp [zipL, r.length, r2.length]⟩⟩
  unfold zipL at e
  rw [List.getElem?_map] at e
  cases e0 : (ds.zip es)[i]? with
  | none => rw [e0] at e; cases e
  | some p =>
    rw [e0] at e; cases e
    obtain ⟨e1, e2⟩ := List.getElem?_zip_eq_some.mp e0
    obtain ⟨v, f1, r1⟩ := r.get e1
    obtain ⟨v2, f2, r3⟩ := r2.get e2
    refine ⟨⟨vs, us, v, v2, hq, hq2, f1, f2⟩, fun x H'' y => ?_⟩
    obtain ⟨T, x0, y0, rfl, nT, ⟨o, to, rfl⟩, g1, g2⟩ := y
    have q1 := g1 vs hq
    rw [f1] at q1; cases q1
    have q2 := g2 us hq2
    rw [f2] at q2; cases q2
    refine ⟨upd F' T (.frz o (.tup [v, v2])), g.laid _ nT, T, o, _, rfl, upd_same, to, ?_⟩
    exact RepL.mono (upd_sub (g.noF nT)) _ (.cons (Rep.mono s _ r1) (.cons (Rep.mono s _ r3) rfl))
def iZip2 (t u : DT) : DI := fun ρ Q E => t ρ (fun d => u ρ (fun e => match seqD d, seqD e with | some (_, ds), some (_, es) => Q (zipL ds es) | _, _ => False) E) E
theorem pui_zip2 {e f : Expr} {t u : DT} {p pos tpos : Pos} {elts : List Expr} {kk : Nat} (hg : Gl X "zip") (hm : X.mg "zip" = none) (he : PuE M W X e t) (hf : PuE M W X f u)
    (hs : starEach [e, f] X.env = (false, eval e X.env) :: starEach [f] X.env := by rfl) (hs2 : starEach [f] X.env = (false, eval f X.env) :: starEach [] X.env := by rfl) (hpl : (backTo pos (starEach [f] X.env)).any (·.1) = false := by rfl) :
    PuI M W X (.Tuple elts kk tpos) (.Call (.Name "zip" p) [e, f] [] pos) (iZip2 t u) := ⟨fun pins s σ H R I ⟨H0, F, ρ, Q, E, k, ht, q, ee⟩ => by
  refine Call_ (ld_blt I hg hm PyProof.Rows.boot_zip (PyProof.Rows.callWith_type1 (thn ((pa_cons he (pa_cons hf pa_nil hs2) hs).run pos pins s σ H (fun vs H1 => ∃ v v' F1 d d', vs = [v, v'] ∧ Gr M F H F1 H1 ∧ Rep X.K X.mg M F1 d v ∧ Rep X.K X.mg M F1 d' v' ∧ (match seqD d, seqD d' with | some (_, ds), some (_, es) => Q (zipL ds es) | _, _ => False)) I
    ⟨H0, F, ρ, _, E, k, ht, fun v H1 F1 d g r hq => ⟨H0, F1, ρ, _, E, k.grow g, hq, fun v' H2 F2 d' g' r' hq' => ⟨v, v', F2, d, d', rfl, g.trans g', Rep.mono g'.sub _ r, r', hq'⟩, fun x c dx H' F' g' => ee x c dx H' F' (g.trans g')⟩, ee⟩) fun us s1 ⟨vs, H1, I1, r1, q1⟩ => ?_) hs hpl))
  obtain ⟨v, v', F1, d, d', rfl, g, r, r', hq⟩ := q1
  split at hq
  · rename_i kd ds kd2 es ed ed2
    obtain ⟨a, vs, rfl, sq, rl⟩ := rep_seq ed r
    obtain ⟨b, us, rfl, sq2, rl2⟩ := rep_seq ed2 r'
    cases r1 with
    | cons rr rt =>
      cases rt with
      | cons rr2 rt =>
      cases rt
      cases rr
      cases rr2
      obtain ⟨its, rv, p1, _⟩ := sqo_read I1 (sq.mono g.inn)
      obtain ⟨its2, rv2, p2, _⟩ := sqo_read I1 (sq2.mono g.inn)
      have la := p1.lt
      have lb := p2.lt
      refine zip_begins2 (begins_sq kd a its.toArray) (begins_sq kd2 b its2.toArray) p1 p2 fun h' hz hTI hTO h1 h2 hsz hk => wpAny_pyIter_zip hz ?_
      have I2 : L2.Inv X pins σ H1 { s1 with heap := h' } := I1.kept (t' := s1.toks) hk
      refine ⟨s1.heap.objs.size + 4, [s1.heap.objs.size + 4, s1.heap.objs.size + 2, s1.heap.objs.size + 3, s1.heap.objs.size, s1.heap.objs.size + 1], _, _, H1, rfl, I2, turn_zipK (k := kd) (l := kd2) (zip_sep2 (N := s1.heap.objs.size) (fp1 := [a]) (fp2 := [b]) (by simpa using la) (by simpa using lb)), ⟨hz, hTI, ⟨_, _, hTO⟩, seqIt_new h1, seqIt_new h2⟩, fun c hcm => ?_, q _ H1 F1 _ g (iters_zip sq rl sq2 rl2) hq⟩
      have e' : c = s1.heap.objs.size + 4 ∨ c = s1.heap.objs.size + 2 ∨ c = s1.heap.objs.size + 3 ∨ c = s1.heap.objs.size ∨ c = s1.heap.objs.size + 1 := by simpa using hcm
      have hle : s1.heap.objs.size ≤ c := by
        rcases e' with z | z | z | z | z
        · rw [z]; exact Nat.le_add_right _ _
        · rw [z]; exact Nat.le_add_right _ _
        · rw [z]; exact Nat.le_add_right _ _
        · rw [z]; exact Nat.le_refl _
        · rw [z]; exact Nat.le_add_right _ _
      exact I1.fpOk hle (I1.hok.fresh hle)
  · exact hq.elim⟩
end
/-! ### zip of three -/
def ItZ3 (k l m : Sk) (K : PySem.W.Frag) (a b d : Addr) : It :=
  ⟨fun i H => ∃ (xs ys zs : List V) (x y z : V), SqO k K H a xs ∧ SqO l K H b ys ∧ SqO m K H d zs ∧ xs[i]? = some x ∧ ys[i]? = some y ∧ zs[i]? = some z,
    fun i H v H' => ∃ T x y z, v = .ref T ∧ H T = none ∧ (∃ o, TupO o ∧ H' = upd H T (.frz o (.tup [x, y, z]))) ∧ (∀ xs, SqO k K H a xs → xs[i]? = some x) ∧ (∀ ys, SqO l K H b ys → ys[i]? = some y) ∧ ∀ zs, SqO m K H d zs → zs[i]? = some z,
    fun i H => ∃ xs ys zs : List V, SqO k K H a xs ∧ SqO l K H b ys ∧ SqO m K H d zs ∧ i = min (min xs.length ys.length) zs.length⟩
theorem turn_zip3 {P : Program} {w : World} {K : PySem.W.Frag} {elts : List Expr} {kk : Nat} {tpos : Pos} {k l m : Sk} {a b d z TI TO i1 i2 i3 : Addr} (S : ZipSep3 z TI TO i1 i2 i3 [i1, a] [i2, b] [i3, d]) :
    Turn P w K (.Tuple elts kk tpos) (ItZ3 k l m K a b d) [z, TI, TO, i1, i2, i3] z (fun i h => IsZip h z TI TO .none ∧ IsTupOf3 h TI (.ref i1) (.ref i2) (.ref i3) ∧ (∃ x y u, IsTupOf3 h TO x y u) ∧ SeqIt k h i1 a i ∧ SeqIt l h i2 b i ∧ SeqIt m h i3 d i) where
  mem := by simp
  obj := fun i h st c hc => by
    obtain ⟨hz, hTI, ⟨x, y, u, hTO⟩, h1, h2, h3⟩ := st
    have e' : c = z ∨ c = TI ∨ c = TO ∨ c = i1 ∨ c = i2 ∨ c = i3 := by simpa using hc
    rcases e' with q | q | q | q | q | q
    · rw [q]; exact ⟨_, hz, fun v q => nomatch q⟩
    · rw [q]; exact ⟨_, hTI, fun v q => nomatch q⟩
    · rw [q]; exact ⟨_, hTO, fun v q => nomatch q⟩
    · rw [q]; exact h1.obj
    · rw [q]; exact h2.obj
    · rw [q]; exact h3.obj
  keep := fun i h h' st kp => by
    obtain ⟨hz, hTI, ⟨x, y, u, hTO⟩, h1, h2, h3⟩ := st
    exact ⟨kp z (by simp) _ hz, kp TI (by simp) _ hTI, ⟨x, y, u, kp TO (by simp) _ hTO⟩, h1.at fun o q => kp i1 (by simp) o q, h2.at fun o q => kp i2 (by simp) o q, h3.at fun o q => kp i3 (by simp) o q⟩
  item := by
    intro X hP hw hK hc i pins s σ H E I hf st hg
    subst hP hw hK
    obtain ⟨hz, hTI, ⟨x0, y0, w0, hTO⟩, h1, h2, h3⟩ := st
    obtain ⟨xs, ys, zs, x, y, v, hqx, hqy, hqz, hx, hy, hv⟩ := hg
    obtain ⟨its, rv, p, _⟩ := sqo_read I hqx
    obtain ⟨its2, rv2, p2, _⟩ := sqo_read I hqy
    obtain ⟨its3, rv3, p3, _⟩ := sqo_read I hqz
    obtain ⟨u, hu, ru⟩ := rv.get hx
    obtain ⟨u2, hu2, ru2⟩ := rv2.get hy
    obtain ⟨u3, hu3, ru3⟩ := rv3.get hv
    have hzl : z < s.heap.objs.size := Heap.lt_size hz
    have ha1 : a ≠ i1 := sq_ne h1 p
    have hb2 : b ≠ i2 := sq_ne h2 p2
    have hd3 : d ≠ i3 := sq_ne h3 p3
    have hi : i < its.toArray.size := by
      have := (List.getElem?_eq_some_iff.mp hu).1
      simpa using this
    have hi2 : i < its2.toArray.size := by
      have := (List.getElem?_eq_some_iff.mp hu2).1
      simpa using this
    have hi3 : i < its3.toArray.size := by
      have := (List.getElem?_eq_some_iff.mp hu3).1
      simpa using this
    refine wpAny_pyNext_zipD3_item S (draws_sq k (A := X.A.in1) (I.ok.hd hc) i1 a ha1 its.toArray) (draws_sq l (A := X.A.in1) (I.ok.hd hc) i2 b hb2 its2.toArray) (draws_sq m (A := X.A.in1) (I.ok.hd hc) i3 d hd3 its3.toArray) hz hTI hTO ⟨h1, p⟩ ⟨h2, p2⟩ ⟨h3, p3⟩ hi hi2 hi3 fun y1 y2 y3 h' tk e1 e2 e3 z' TO' s1' s2' s3' hT hsz hk => ?_
    have ey : y1 = u := by
      have : its[i]? = some y1 := by simpa using e1
      rw [hu] at this; exact (Option.some.inj this).symm
    have ey2 : y2 = u2 := by
      have : its2[i]? = some y2 := by simpa using e2
      rw [hu2] at this; exact (Option.some.inj this).symm
    have ey3 : y3 = u3 := by
      have : its3[i]? = some y3 := by simpa using e3
      rw [hu3] at this; exact (Option.some.inj this).symm
    subst ey ey2 ey3
    refine ⟨_, rfl, wpAny_letOwnedTupleGo_zip (s := { s with heap := h', toks := tk }) z' fun h'' z'' sb => ?_⟩
    have hT2 : h''.get? s.heap.objs.size = some { cls := .type "tuple", data := .seq #[y1, y2, y3] } := (sb.2 _ (Nat.ne_of_gt hzl)).trans hT
    have new : ObjOk X.prog X.w (upd H s.heap.objs.size (.frz { cls := .type "tuple", data := .seq #[y1, y2, y3] } (.tup [x, y, v]))) h'' s.heap.objs.size (.frz { cls := .type "tuple", data := .seq #[y1, y2, y3] } (.tup [x, y, v])) :=
      ⟨hT2, by show 3 ≤ sizeLine; decide, [y1, y2, y3], .cons ru (.cons ru2 (.cons ru3 .nil)), ⟨_, hT2, rfl, _, rfl⟩⟩
    have I1 : L2.Inv X pins σ (upd H s.heap.objs.size (.frz { cls := .type "tuple", data := .seq #[y1, y2, y3] } (.tup [x, y, v]))) { s with heap := h'', toks := tk } :=
      I.turnedNew (ch := [z, TI, TO, i1, i2, i3]) (fun c o hb q => (sb.2 c (fun q' => hb (by simp [q']))).trans (hk c o (fun q' => hb (by simp [q'])) (fun q' => hb (by simp [q'])) (fun q' => hb (by simp [q'])) (fun q' => hb (by simp [q'])) (fun q' => hb (by simp [q'])) q)) hf (Nat.le_refl _) new
    have z1 : i1 ≠ z := fun q => S.zf1 (by simp [q])
    have z2 : i2 ≠ z := fun q => S.zf2 (by simp [q])
    have z3 : i3 ≠ z := fun q => S.zf3 (by simp [q])
    refine ⟨.ref s.heap.objs.size, _, I1, rfl, ⟨_, x, y, v, rfl, I.hok.fresh (Nat.le_refl _), ⟨_, ⟨_, rfl⟩, rfl⟩, fun l' hl => by rw [sqo_inj I hl hqx]; exact hx, fun l' hl => by rw [sqo_inj I hl hqy]; exact hy, fun l' hl => by rw [sqo_inj I hl hqz]; exact hv⟩, ⟨z'', ?_, ⟨y1, y2, y3, ?_⟩, ?_, ?_, ?_⟩, fun c hcm => ?_⟩
    · exact (sb.2 _ S.TIz).trans (hk _ _ S.TIz S.TITO S.TIi1 S.TIi2 S.TIi3 hTI)
    · exact (sb.2 _ S.TOz).trans TO'
    · exact s1'.1.at fun o q => (sb.2 _ z1).trans q
    · exact s2'.1.at fun o q => (sb.2 _ z2).trans q
    · exact s3'.1.at fun o q => (sb.2 _ z3).trans q
    · have hlt : c < s.heap.objs.size := by
        have e' : c = z ∨ c = TI ∨ c = TO ∨ c = i1 ∨ c = i2 ∨ c = i3 := by simpa using hcm
        rcases e' with q | q | q | q | q | q
        · rw [q]; exact hzl
        · rw [q]; exact Heap.lt_size hTI
        · rw [q]; exact Heap.lt_size hTO
        · rw [q]; exact h1.lt
        · rw [q]; exact h2.lt
        · rw [q]; exact h3.lt
      rw [upd_ne (Nat.ne_of_lt hlt)]
      exact (hf c hcm).1
  done := by
    intro X hP hw hK hc i pins s σ H E I hf st hg
    subst hP hw hK
    obtain ⟨hz, hTI, ⟨x0, y0, w0, hTO⟩, h1, h2, h3⟩ := st
    obtain ⟨xs, ys, zs, hqx, hqy, hqz, hend⟩ := hg
    obtain ⟨its, rv, p, _⟩ := sqo_read I hqx
    obtain ⟨its2, rv2, p2, _⟩ := sqo_read I hqy
    obtain ⟨its3, rv3, p3, _⟩ := sqo_read I hqz
    have l1 := rv.length
    have l2 := rv2.length
    have l3 := rv3.length
    exact wpAny_pyNext_zipD3_end S (draws_sq k (A := X.A.in1) (I.ok.hd hc) i1 a (sq_ne h1 p) its.toArray) (draws_sq l (A := X.A.in1) (I.ok.hd hc) i2 b (sq_ne h2 p2) its2.toArray) (draws_sq m (A := X.A.in1) (I.ok.hd hc) i3 d (sq_ne h3 p3) its3.toArray) hz hTI hTO ⟨h1, p⟩ ⟨h2, p2⟩ ⟨h3, p3⟩ (by simp; omega) (by simp; omega) (by simp; omega) (by simp; omega) fun h' tk hk => ⟨rfl, I.turnedL (t' := tk) (ch := [z, TI, TO, i1, i2, i3]) (fun c o hb q =>
      hk c o (fun q' => hb (by simp [q'])) (fun q' => hb (by simp [q'])) (fun q' => hb (by simp [q'])) (fun q' => hb (by simp [q'])) (fun q' => hb (by simp [q'])) q) hf⟩
  self := fun A i s Q E st h => wpAny_pyIter_zip st.1 h
section
variable {M : Am} {W : WX} {X : Cx} {pos : Pos}
def zipL3 (ds es fs : List D) : List D := (ds.zip (es.zip fs)).map fun p => .tup [p.1, p.2.1, p.2.2]
theorem iters_zip3 {k l m : Sk} {a b c : Addr} {vs us ws : List V} {ds es fs : List D} {F : Hp} {K : PySem.W.Frag} {mg : Str → Option Value} (h : SqO k K F a vs) (r : RepL K mg M F ds vs) (h2 : SqO l K F b us) (r2 : RepL K mg M F es us) (h3 : SqO m K F c ws) (r3 : RepL K mg M F fs ws) : Iters K mg M (ItZ3 k l m K a b c) F (zipL3 ds es fs) := fun F' H' g s => by
  have hq : SqO k K H' a vs := h.mono (s.trans g.inn)
  have hq2 : SqO l K H' b us := h2.mono (s.trans g.inn)
  have hq3 : SqO m K H' c ws := h3.mono (s.trans g.inn)
  refine ⟨fun i d e => ?_, ⟨vs, us, ws, hq, hq2, hq3, by simp [zipL3, r.length, r2.length, r3.length]⟩⟩
  unfold zipL3 at e
  rw [List.getElem?_map] at e
  cases e0 : (ds.zip (es.zip fs))[i]? with
  | none => rw [e0] at e; cases e
  | some p =>
    rw [e0] at e; cases e
    obtain ⟨e1, e23⟩ := List.getElem?_zip_eq_some.mp e0
    obtain ⟨e2, e3⟩ := List.getElem?_zip_eq_some.mp e23
    obtain ⟨v, f1, q1⟩ := r.get e1
    obtain ⟨v2, f2, q2⟩ := r2.get e2
    obtain ⟨v3, f3, q3⟩ := r3.get e3
    refine ⟨⟨vs, us, ws, v, v2, v3, hq, hq2, hq3, f1, f2, f3⟩, fun x H'' y => ?_⟩
    obtain ⟨T, x0, y0, z0, rfl, nT, ⟨o, to, rfl⟩, g1, g2, g3⟩ := y
    have t1 := g1 vs hq
    rw [f1] at t1; cases t1
    have t2 := g2 us hq2
    rw [f2] at t2; cases t2
    have t3 := g3 ws hq3
    rw [f3] at t3; cases t3
    refine ⟨upd F' T (.frz o (.tup [v, v2, v3])), g.laid _ nT, T, o, _, rfl, upd_same, to, ?_⟩
    exact RepL.mono (upd_sub (g.noF nT)) _ (.cons (Rep.mono s _ q1) (.cons (Rep.mono s _ q2) (.cons (Rep.mono s _ q3) rfl)))
def iZip3 (t u v : DT) : DI := fun ρ Q E => t ρ (fun d => u ρ (fun e => v ρ (fun f => match seqD d, seqD e, seqD f with | some (_, ds), some (_, es), some (_, fs) => Q (zipL3 ds es fs) | _, _, _ => False) E) E) E
theorem pui_zip3 {e f g : Expr} {t u v : DT} {p pos tpos : Pos} {elts : List Expr} {kk : Nat} (hg : Gl X "zip") (hm : X.mg "zip" = none) (he : PuE M W X e t) (hf : PuE M W X f u) (hgg : PuE M W X g v)
    (hs : starEach [e, f, g] X.env = (false, eval e X.env) :: starEach [f, g] X.env := by rfl) (hs2 : starEach [f, g] X.env = (false, eval f X.env) :: starEach [g] X.env := by rfl) (hs3 : starEach [g] X.env = (false, eval g X.env) :: starEach [] X.env := by rfl) (hpl : (backTo pos (starEach [f, g] X.env)).any (·.1) = false := by rfl) :
    PuI M W X (.Tuple elts kk tpos) (.Call (.Name "zip" p) [e, f, g] [] pos) (iZip3 t u v) := ⟨fun pins s σ H R I ⟨H0, F, ρ, Q, E, k, ht, q, ee⟩ => by
  refine Call_ (ld_blt I hg hm PyProof.Rows.boot_zip (PyProof.Rows.callWith_type1 (thn ((pa_cons he (pa_cons hf (pa_cons hgg pa_nil hs3) hs2) hs).run pos pins s σ H (fun vs H1 => ∃ v v' v'' F1 d d' d'', vs = [v, v', v''] ∧ Gr M F H F1 H1 ∧ Rep X.K X.mg M F1 d v ∧ Rep X.K X.mg M F1 d' v' ∧ Rep X.K X.mg M F1 d'' v'' ∧ (match seqD d, seqD d', seqD d'' with | some (_, ds), some (_, es), some (_, fs) => Q (zipL3 ds es fs) | _, _, _ => False)) I
    ⟨H0, F, ρ, _, E, k, ht, fun v H1 F1 d g r hq => ⟨H0, F1, ρ, _, E, k.grow g, hq, fun v' H2 F2 d' g' r' hq' => ⟨H0, F2, ρ, _, E, k.grow (g.trans g'), hq', fun v'' H3 F3 d'' g'' r'' hq'' => ⟨v, v', v'', F3, d, d', d'', rfl, (g.trans g').trans g'', Rep.mono (g'.sub.trans g''.sub) _ r, Rep.mono g''.sub _ r', r'', hq''⟩, fun x c dx H' F' g3 => ee x c dx H' F' ((g.trans g').trans g3)⟩, fun x c dx H' F' g' => ee x c dx H' F' (g.trans g')⟩, ee⟩) fun us s1 ⟨vs, H1, I1, r1, q1⟩ => ?_) hs hpl))
  obtain ⟨v, v', v'', F1, d, d', d'', rfl, g, r, r', r'', hq⟩ := q1
  split at hq
  · rename_i kd ds kd2 es kd3 fs ed ed2 ed3
    obtain ⟨a, vs, rfl, sq, rl⟩ := rep_seq ed r
    obtain ⟨b, us, rfl, sq2, rl2⟩ := rep_seq ed2 r'
    obtain ⟨c, ws, rfl, sq3, rl3⟩ := rep_seq ed3 r''
    cases r1 with
    | cons rr rt =>
      cases rt with
      | cons rr2 rt =>
      cases rt with
      | cons rr3 rt =>
      cases rt
      cases rr
      cases rr2
      cases rr3
      obtain ⟨its, rv, p1, _⟩ := sqo_read I1 (sq.mono g.inn)
      obtain ⟨its2, rv2, p2, _⟩ := sqo_read I1 (sq2.mono g.inn)
      obtain ⟨its3, rv3, p3, _⟩ := sqo_read I1 (sq3.mono g.inn)
      have la := p1.lt
      have lb := p2.lt
      have lc := p3.lt
      refine zip_begins3 (begins_sq kd a its.toArray) (begins_sq kd2 b its2.toArray) (begins_sq kd3 c its3.toArray) p1 p2 p3 fun h' hz hTI hTO h1 h2 h3 hsz hk => wpAny_pyIter_zip hz ?_
      have I2 : L2.Inv X pins σ H1 { s1 with heap := h' } := I1.kept (t' := s1.toks) hk
      refine ⟨s1.heap.objs.size + 5, [s1.heap.objs.size + 5, s1.heap.objs.size + 3, s1.heap.objs.size + 4, s1.heap.objs.size, s1.heap.objs.size + 1, s1.heap.objs.size + 2], _, _, H1, rfl, I2, turn_zip3 (k := kd) (l := kd2) (m := kd3) (zip_sep3 (N := s1.heap.objs.size) (fp1 := [a]) (fp2 := [b]) (fp3 := [c]) (by simpa using la) (by simpa using lb) (by simpa using lc)), ⟨hz, hTI, ⟨_, _, _, hTO⟩, seqIt_new h1, seqIt_new h2, seqIt_new h3⟩, fun x hcm => ?_, q _ H1 F1 _ g (iters_zip3 sq rl sq2 rl2 sq3 rl3) hq⟩
      have e' : x = s1.heap.objs.size + 5 ∨ x = s1.heap.objs.size + 3 ∨ x = s1.heap.objs.size + 4 ∨ x = s1.heap.objs.size ∨ x = s1.heap.objs.size + 1 ∨ x = s1.heap.objs.size + 2 := by simpa using hcm
      have hle : s1.heap.objs.size ≤ x := by
        rcases e' with z | z | z | z | z | z
        · rw [z]; exact Nat.le_add_right _ _
        · rw [z]; exact Nat.le_add_right _ _
        · rw [z]; exact Nat.le_add_right _ _
        · rw [z]; exact Nat.le_refl _
        · rw [z]; exact Nat.le_add_right _ _
        · rw [z]; exact Nat.le_add_right _ _
      exact I1.fpOk hle (I1.hok.fresh hle)
  · exact hq.elim⟩
end
end PL
set_option Elab.async false
set_option linter.all false
set_option maxRecDepth 100000
namespace PL
open PySem PySem.Spec PyProof.Rows L2

section
variable {M : Am} {W : WX} {X : Cx} {pos : Pos}
/-! ### built-ins -/
def intsD : List D → Option (List Int)
  | [] => some []
  | .int i :: ds => (intsD ds).map (i :: ·)
  | _ :: _ => none
def blsD : List D → Option (List Bool)
  | [] => some []
  | .bl i :: ds => (blsD ds).map (i :: ·)
  | _ :: _ => none
theorem intsD_map : ∀ ns : List Int, intsD (ns.map D.int) = some ns
  | [] => rfl
  | n :: ns => by simp [intsD, intsD_map ns]
theorem blsD_map : ∀ ns : List Bool, blsD (ns.map D.bl) = some ns
  | [] => rfl
  | n :: ns => by simp [blsD, blsD_map ns]
theorem intsD_of : ∀ {ds : List D} {ns : List Int}, intsD ds = some ns → ds = ns.map D.int
  | [], _, h => by cases h; rfl
  | d :: ds, ns, h => by
    cases d <;> first
      | (cases h; done)
      | skip
    case int i =>
    obtain ⟨ms, h1, rfl⟩ := Option.map_eq_some_iff.mp h
    rw [intsD_of h1]
    rfl
theorem blsD_of : ∀ {ds : List D} {ns : List Bool}, blsD ds = some ns → ds = ns.map D.bl
  | [], _, h => by cases h; rfl
  | d :: ds, ns, h => by
    cases d <;> first
      | (cases h; done)
      | skip
    case bl i =>
    obtain ⟨ms, h1, rfl⟩ := Option.map_eq_some_iff.mp h
    rw [blsD_of h1]
    rfl
theorem RepL.ints {K : PySem.W.Frag} {mg : Str → Option Value} {F : Hp} : ∀ {ns : List Int} {vs : List V}, RepL K mg M F (ns.map D.int) vs → vs = ns.map V.int
  | [], _, h => h
  | n :: ns, _, h => by
    obtain ⟨x, xs, rfl, r, q⟩ := h
    rw [show x = V.int n from r, RepL.ints q]
    rfl
theorem RepL.bls {K : PySem.W.Frag} {mg : Str → Option Value} {F : Hp} : ∀ {ns : List Bool} {vs : List V}, RepL K mg M F (ns.map D.bl) vs → vs = ns.map V.bl
  | [], _, h => h
  | n :: ns, _, h => by
    obtain ⟨x, xs, rfl, r, q⟩ := h
    rw [show x = V.bl n from r, RepL.bls q]
    rfl
theorem repL_ints {K : PySem.W.Frag} {mg : Str → Option Value} {F : Hp} : ∀ (ns : List Int), RepL K mg M F (ns.map D.int) (ns.map V.int)
  | [] => rfl
  | n :: ns => .cons (d := .int n) rfl (repL_ints ns)
def intD (ds : List D) : Ret := match ds with
  | [.int i] => .ok (.int i)
  | [.bl b] => .ok (.int (if b then 1 else 0))
  | _ => .no
def absD (ds : List D) : Ret := match ds with
  | [.int i] => .ok (.int (if i < 0 then -i else i))
  | _ => .no
def sumD (ds : List D) : Ret := match ds with
  | [.lst xs] => (match intsD xs with | some ns => .ok (.int ns.sum) | none => .no)
  | _ => .no
def allD (ds : List D) : Ret := match ds with
  | [.lst xs] => (match blsD xs with | some ns => .ok (.bl (ns.all id)) | none => .no)
  | _ => .no
def anyD (ds : List D) : Ret := match ds with
  | [.lst xs] => (match blsD xs with | some ns => .ok (.bl (ns.any id)) | none => .no)
  | _ => .no
/-- the greatest, the least -/
def mxI (ns : List Int) : Int := match ns with | [] => 0 | n :: ns => ns.foldl max n
def mnI (ns : List Int) : Int := match ns with | [] => 0 | n :: ns => ns.foldl min n
theorem foldl_max : ∀ (ns : List Int) (n : Int), (ns.foldl max n = n ∨ ns.foldl max n ∈ ns) ∧ n ≤ ns.foldl max n ∧ ∀ y ∈ ns, y ≤ ns.foldl max n
  | [], n => by simp
  | m :: ns, n => by
    obtain ⟨h1, h2, h3⟩ := foldl_max ns (max n m)
    simp only [List.foldl_cons, List.mem_cons]
    refine ⟨?_, by omega, ?_⟩
    · rcases h1 with h1 | h1
      · rw [h1]; omega
      · exact .inr (.inr h1)
    · rintro y (rfl | hy)
      · omega
      · exact h3 y hy
theorem foldl_min : ∀ (ns : List Int) (n : Int), (ns.foldl min n = n ∨ ns.foldl min n ∈ ns) ∧ ns.foldl min n ≤ n ∧ ∀ y ∈ ns, ns.foldl min n ≤ y
  | [], n => by simp
  | m :: ns, n => by
    obtain ⟨h1, h2, h3⟩ := foldl_min ns (min n m)
    simp only [List.foldl_cons, List.mem_cons]
    refine ⟨?_, by omega, ?_⟩
    · rcases h1 with h1 | h1
      · rw [h1]; omega
      · exact .inr (.inr h1)
    · rintro y (rfl | hy)
      · omega
      · exact h3 y hy
theorem mxI_spec {ns : List Int} (h : 0 < ns.length) : mxI ns ∈ ns ∧ ∀ y ∈ ns, y ≤ mxI ns := by
  cases ns with
  | nil => simp at h
  | cons n ns =>
    obtain ⟨h1, h2, h3⟩ := foldl_max ns n
    refine ⟨?_, ?_⟩
    · show ns.foldl max n ∈ n :: ns
      rcases h1 with h1 | h1
      · rw [h1]; exact List.mem_cons_self
      · exact List.mem_cons_of_mem _ h1
    · intro y hy
      show y ≤ ns.foldl max n
      rcases List.mem_cons.mp hy with rfl | hy
      · exact h2
      · exact h3 y hy
theorem mnI_spec {ns : List Int} (h : 0 < ns.length) : mnI ns ∈ ns ∧ ∀ y ∈ ns, mnI ns ≤ y := by
  cases ns with
  | nil => simp at h
  | cons n ns =>
    obtain ⟨h1, h2, h3⟩ := foldl_min ns n
    refine ⟨?_, ?_⟩
    · show ns.foldl min n ∈ n :: ns
      rcases h1 with h1 | h1
      · rw [h1]; exact List.mem_cons_self
      · exact List.mem_cons_of_mem _ h1
    · intro y hy
      show ns.foldl min n ≤ y
      rcases List.mem_cons.mp hy with rfl | hy
      · exact h2
      · exact h3 y hy
def maxD (ds : List D) : Ret := match ds with
  | [.lst xs] => (match intsD xs with | some ns => .cond (0 < ns.length) (.int (mxI ns)) | none => .no)
  | _ => .no
def minD (ds : List D) : Ret := match ds with
  | [.lst xs] => (match intsD xs with | some ns => .cond (0 < ns.length) (.int (mnI ns)) | none => .no)
  | _ => .no
def max2D (ds : List D) : Ret := match ds with
  | [.int i, .int j] => .ok (.int (if j > i then j else i))
  | _ => .no
def min2D (ds : List D) : Ret := match ds with
  | [.int i, .int j] => .ok (.int (if j < i then j else i))
  | _ => .no
theorem cd_int : CallR X (.type "int") (rDL M X intD) := by
  intro pins s σ H xs us Q I r ⟨F, ds, dz, g, rl, e, q⟩
  unfold intD at e
  split at e
  · cases e
    obtain ⟨x, rfl, r1⟩ := rl.one
    have r1 : x = V.int _ := r1
    subst r1
    exact call_int1 pins s σ H _ us Q I r (.inl ⟨_, rfl, q _ H F g rfl⟩)
  · rename_i b
    cases e
    obtain ⟨x, rfl, r1⟩ := rl.one
    have r1 : x = V.bl _ := r1
    subst r1
    exact call_int1 pins s σ H _ us Q I r (.inr ⟨_, rfl, q _ H F g rfl⟩)
  · exact e.elim
theorem cd_abs : CallR X (.builtin "abs") (rDL M X absD) := by
  intro pins s σ H xs us Q I r ⟨F, ds, dz, g, rl, e, q⟩
  unfold absD at e
  split at e
  · cases e
    obtain ⟨x, rfl, r1⟩ := rl.one
    have r1 : x = V.int _ := r1
    subst r1
    exact call_abs pins s σ H _ us Q I r ⟨_, rfl, q _ H F g rfl⟩
  · exact e.elim
theorem arep_ints {K : PySem.W.Frag} {mg : Str → Option Value} {F H : Hp} {xs : List D} {ns : List Int} {v : V} (e : intsD xs = some ns) (r : ARep K mg M F H (.lst xs) v) : ∃ a, v = .ref a ∧ SqL K H a (ns.map V.int) := by
  rw [intsD_of e] at r
  obtain ⟨a, vs, rfl, _, sq, rl⟩ := arep_lst r
  rw [rl.ints] at sq
  exact ⟨a, rfl, sq⟩
theorem arep_bls {K : PySem.W.Frag} {mg : Str → Option Value} {F H : Hp} {xs : List D} {ns : List Bool} {v : V} (e : blsD xs = some ns) (r : ARep K mg M F H (.lst xs) v) : ∃ a, v = .ref a ∧ SqL K H a (ns.map V.bl) := by
  rw [blsD_of e] at r
  obtain ⟨a, vs, rfl, _, sq, rl⟩ := arep_lst r
  rw [rl.bls] at sq
  exact ⟨a, rfl, sq⟩
theorem cd_sum (hc : X.calm = true) : CallR X (.builtin "sum") (rDL M X sumD) := by
  intro pins s σ H xs us Q I r ⟨F, ds, dz, g, rl, e, q⟩
  unfold sumD at e
  split at e
  · split at e
    · rename_i ns en
      cases e
      obtain ⟨x, rfl, r1⟩ := rl.one
      obtain ⟨a, rfl, sq⟩ := arep_ints en r1
      exact cr_sum hc pins s σ H _ us Q I r ⟨a, ns, rfl, sq, q _ H F g rfl⟩
    · exact e.elim
  · exact e.elim
theorem cd_all (hc : X.calm = true) : CallR X (.builtin "all") (rDL M X allD) := by
  intro pins s σ H xs us Q I r ⟨F, ds, dz, g, rl, e, q⟩
  unfold allD at e
  split at e
  · split at e
    · rename_i ns en
      cases e
      obtain ⟨x, rfl, r1⟩ := rl.one
      obtain ⟨a, rfl, sq⟩ := arep_bls en r1
      exact cr_all hc pins s σ H _ us Q I r ⟨a, ns, rfl, sq, q _ H F g rfl⟩
    · exact e.elim
  · exact e.elim
theorem cd_any (hc : X.calm = true) : CallR X (.builtin "any") (rDL M X anyD) := by
  intro pins s σ H xs us Q I r ⟨F, ds, dz, g, rl, e, q⟩
  unfold anyD at e
  split at e
  · split at e
    · rename_i ns en
      cases e
      obtain ⟨x, rfl, r1⟩ := rl.one
      obtain ⟨a, rfl, sq⟩ := arep_bls en r1
      exact cr_any hc pins s σ H _ us Q I r ⟨a, ns, rfl, sq, q _ H F g rfl⟩
    · exact e.elim
  · exact e.elim
theorem cd_max (hc : X.calm = true) : CallR X (.builtin "max") (rDL M X maxD) := by
  intro pins s σ H xs us Q I r ⟨F, ds, dz, g, rl, e, q⟩
  unfold maxD at e
  split at e
  · split at e
    · rename_i ns en
      obtain ⟨hl, rfl⟩ := e
      obtain ⟨x, rfl, r1⟩ := rl.one
      obtain ⟨a, rfl, sq⟩ := arep_ints en r1
      refine cr_max hc pins s σ H _ us Q I r ⟨a, ns, rfl, sq, hl, fun m h1 h2 => ?_⟩
      have : m = mxI ns := by
        have := mxI_spec hl
        exact Int.le_antisymm (this.2 m h1) (h2 _ this.1)
      rw [this]
      exact q _ H F g rfl
    · exact e.elim
  · exact e.elim
theorem cd_min (hc : X.calm = true) : CallR X (.builtin "min") (rDL M X minD) := by
  intro pins s σ H xs us Q I r ⟨F, ds, dz, g, rl, e, q⟩
  unfold minD at e
  split at e
  · split at e
    · rename_i ns en
      obtain ⟨hl, rfl⟩ := e
      obtain ⟨x, rfl, r1⟩ := rl.one
      obtain ⟨a, rfl, sq⟩ := arep_ints en r1
      refine cr_min hc pins s σ H _ us Q I r ⟨a, ns, rfl, sq, hl, fun m h1 h2 => ?_⟩
      have : m = mnI ns := by
        have := mnI_spec hl
        exact Int.le_antisymm (h2 _ this.1) (this.2 m h1)
      rw [this]
      exact q _ H F g rfl
    · exact e.elim
  · exact e.elim
theorem cd_max2 (hc : X.calm = true) : CallR X (.builtin "max") (rDL M X max2D) := by
  intro pins s σ H xs us Q I r ⟨F, ds, dz, g, rl, e, q⟩
  unfold max2D at e
  split at e
  · cases e
    obtain ⟨x, y, rfl, r1, r2⟩ := rl.two
    have r1 : x = V.int _ := r1
    have r2 : y = V.int _ := r2
    subst r1 r2
    exact call_max2 hc pins s σ H _ us Q I r ⟨_, _, rfl, q _ H F g rfl⟩
  · exact e.elim
theorem cd_min2 (hc : X.calm = true) : CallR X (.builtin "min") (rDL M X min2D) := by
  intro pins s σ H xs us Q I r ⟨F, ds, dz, g, rl, e, q⟩
  unfold min2D at e
  split at e
  · cases e
    obtain ⟨x, y, rfl, r1, r2⟩ := rl.two
    have r1 : x = V.int _ := r1
    have r2 : y = V.int _ := r2
    subst r1 r2
    exact call_min2 hc pins s σ H _ us Q I r ⟨_, _, rfl, q _ H F g rfl⟩
  · exact e.elim
/-! ### list(x), tuple(x) -/
def listD (ds : List D) : Ret := match ds with
  | [.lst xs] => .ok (.lst xs)
  | [.tup xs] => .ok (.lst xs)
  | _ => .no
def tupleD (ds : List D) : Ret := match ds with
  | [.lst xs] => .ok (.tup xs)
  | [.tup xs] => .ok (.tup xs)
  | _ => .no
theorem cd_list : CallR X (.type "list") (rO M X listD) := by
  intro pins s σ H xs us Q I r ⟨F, ds, dz, g, rl, e, q⟩
  unfold listD at e
  split at e
  · cases e
    obtain ⟨x, rfl, r1⟩ := rl.one
    obtain ⟨a, vs, rfl, _, sq, l⟩ := arep_lst r1
    exact call_list_of pins s σ H _ us Q I r ⟨a, vs, rfl, .inl sq, new_own g l q⟩
  · cases e
    obtain ⟨x, rfl, r1⟩ := rl.one
    obtain ⟨a, vs, rfl, sq, l⟩ := arep_tup g.inn r1
    exact call_list_of pins s σ H _ us Q I r ⟨a, vs, rfl, .inr sq, new_own g l q⟩
  · exact e.elim
theorem cd_tuple : CallR X (.type "tuple") (rDL M X tupleD) := by
  intro pins s σ H xs us Q I r ⟨F, ds, dz, g, rl, e, q⟩
  unfold tupleD at e
  split at e
  · cases e
    obtain ⟨x, rfl, r1⟩ := rl.one
    obtain ⟨a, vs, rfl, _, sq, l⟩ := arep_lst r1
    obtain ⟨u, rfl, ru⟩ := r.one
    cases ru
    obtain ⟨its, rv, p, hz⟩ := I.list sq
    refine call_tuple_list p.isList (fun h' hk => ⟨.ref h'.objs.size, _, tnew (t' := s.toks) I rv (by rw [← rv.length]; exact hz) hk, rfl, new_tup g l q _ _ ?_ ⟨_, rfl⟩⟩) (by rw [List.size_toArray, ← rv.length]; exact hz)
    exact (I.kept (t' := s.toks) hk).fresh
  · cases e
    obtain ⟨x, rfl, r1⟩ := rl.one
    obtain ⟨a, vs, e1, sq, l⟩ := arep_tup g.inn r1
    subst e1
    exact call_tuple_of pins s σ H _ us Q I r ⟨a, vs, rfl, .inr ⟨sq, q _ H F g r1⟩⟩
  · exact e.elim
/-- list(range(..)), tuple(range(..)) -/
def rgD (lo hi : Int) : List D := (List.range (hi - lo).toNat).map fun i => .int (lo + (i : Nat))
theorem rgV_rep {K : PySem.W.Frag} {mg : Str → Option Value} {F : Hp} (lo hi : Int) : RepL K mg M F (rgD lo hi) (rgV lo hi) := by
  unfold rgD rgV
  generalize (List.range (hi - lo).toNat) = l
  induction l with
  | nil => exact rfl
  | cons i l ih => exact .cons (d := .int (lo + (i : Nat))) rfl ih
def gR1 (t : DT) : DEnv → (Int → Int → Prop) → (EX → Prop) → Prop := fun ρ Q E => t ρ (fun d => match d with | .int n => Q 0 n | _ => False) E
def gR2 (t u : DT) : DEnv → (Int → Int → Prop) → (EX → Prop) → Prop := fun ρ Q E => t ρ (fun d => u ρ (fun e => match d, e with | .int i, .int j => Q i j | _, _ => False) E) E
abbrev DG := DEnv → (Int → Int → Prop) → (EX → Prop) → Prop
def tGR (M : Am) (W : WX) (X : Cx) (t : DG) : L2.St → Hp → (Int → Int → Hp → Prop) → Prop := fun σ H QV => ∃ H0 F ρ Q E, EOk X.K X.mg M H0 F H σ ρ ∧ t ρ Q E ∧ (∀ i j H' F', Gr M F H F' H' → Q i j → QV i j H') ∧
  ∀ x c dx H' F', Gr M F H F' H' → XRep X.K X.mg M F' H' x c dx → E x → W c dx σ H'
abbrev PuR (M : Am) (W : WX) (X : Cx) (e : Expr) (t : DG) : Prop := PRg X e (tGR M W X t)
theorem PRgimp {e : Expr} {t u : L2.St → Hp → (Int → Int → Hp → Prop) → Prop} (h : PRg X e t) (k : ∀ σ H Q, u σ H Q → t σ H Q) : PRg X e u := fun pins s σ H Q I q => h pins s σ H Q I (k σ H Q q)
theorem pur_1 {p : Pos} {a : Expr} {t : DT} (hg : Gl X "range") (hm : X.mg "range" = none) (ha : PuE M W X a t) (na : starEach [a] X.env = (false, eval a X.env) :: starEach [] X.env := by rfl) : PuR M W X (.Call (.Name "range" p) [a] [] pos) (gR1 t) :=
  PRgimp (prg_1 hg hm ha na) fun σ H QV ⟨H0, F, ρ, Q, E, k, ht, q, e⟩ => by
    refine ⟨H0, F, ρ, _, E, k, ht, fun v H' F' d g r hq => ?_, e⟩
    cases d <;> first
      | exact hq.elim
      | exact ⟨_, r, q _ _ H' F' g hq⟩
theorem pur_2 {p : Pos} {a b : Expr} {t u : DT} (hg : Gl X "range") (hm : X.mg "range" = none) (ha : PuE M W X a t) (hb : PuE M W X b u) (na : starEach [a, b] X.env = (false, eval a X.env) :: starEach [b] X.env := by rfl) (nb : starEach [b] X.env = (false, eval b X.env) :: starEach [] X.env := by rfl) (hp : (backTo pos (starEach [b] X.env)).any (·.1) = false := by rfl) : PuR M W X (.Call (.Name "range" p) [a, b] [] pos) (gR2 t u) :=
  PRgimp (prg_2 hg hm ha hb na nb hp) fun σ H QV ⟨H0, F, ρ, Q, E, k, ht, q, e⟩ => by
    refine ⟨H0, F, ρ, _, E, k, ht, fun v H1 F1 d g r hq => ?_, e⟩
    refine ⟨H0, F1, ρ, _, E, k.grow g, hq, fun v' H2 F2 d' g' r' hq' => ?_, fun x c dx H' F' g' => e x c dx H' F' (g.trans g')⟩
    split at hq'
    · exact ⟨_, _, r, r', q _ _ H2 F2 (g.trans g') hq'⟩
    · exact hq'.elim
def dRgL (t : DG) : DT := fun ρ Q E => t ρ (fun i j => RgOk i j ∧ Q (.lst (rgD i j))) E
def dRgT (t : DG) : DT := fun ρ Q E => t ρ (fun i j => RgOk i j ∧ Q (.tup (rgD i j))) E
theorem puo_listRg {p : Pos} {e : Expr} {t : DG} (hc : X.calm = true) (hg : Gl X "list") (hm : X.mg "list" = none) (he : PuR M W X e t) (na : starEach [e] X.env = (false, eval e X.env) :: starEach [] X.env := by rfl) : PuO M W X (.Call (.Name "list" p) [e] [] pos) (dRgL t) :=
  PEimp (pe_listRg hc hg hm he na) fun σ H QV ⟨H0, F, ρ, Q, E, k, ht, q, e⟩ => by
    refine ⟨H0, F, ρ, _, E, k, ht, fun i j H' F' g hq => ⟨hq.1, ?_⟩, e⟩
    exact new_own g.self (rgV_rep i j) fun a H'' F'' g' n nF r => q a H'' F'' _ (g.trans g') (g.free g.inv n) nF r hq.2
theorem items_rg {lo hi : Int} {acc : Array Value} (h : ItemsOf (fun i v => ∃ t, v = Value.int (lo + (i : Nat) * 1) t) acc (hi - lo).toNat) : Vals (rgV lo hi) acc.toList := by
  obtain ⟨hz, hv⟩ := h
  unfold rgV
  have key : ∀ (n k : Nat) (l : List Value), l.length = n → (∀ (j : Nat) (v : Value), l[j]? = some v → ∃ t, v = Value.int (lo + ((k + j : Nat) : Int)) t) → Vals ((List.range' k n).map fun i => V.int (lo + (i : Nat))) l := by
    intro n
    induction n with
    | zero =>
      intro k l hl _
      rw [List.length_eq_zero_iff.mp hl]
      exact .nil
    | succ n ih =>
      intro k l hl hq
      cases l with
      | nil => cases hl
      | cons v l =>
        obtain ⟨t, rfl⟩ := hq 0 v rfl
        refine .cons ⟨t, rfl⟩ (ih (k + 1) l (by simpa using hl) fun j v e => ?_)
        obtain ⟨t, rfl⟩ := hq (j + 1) v (by simpa using e)
        exact ⟨t, by congr 3; omega⟩
  rw [List.range_eq_range']
  refine key _ 0 _ (by simpa using hz) fun j v e => ?_
  obtain ⟨t, rfl⟩ := hv j v (by simpa using e)
  exact ⟨t, by rw [Int.mul_one, Nat.zero_add]⟩
theorem rg_size {a b : Int} : Builtin.Range.rangeSize a b 1 = ((b - a).toNat : Int) := by
  unfold Builtin.Range.rangeSize
  rw [if_pos (by decide)]
  split
  · rw [Int.ediv_one]; omega
  · omega
theorem rg_fit {x : Int} (h : -(2 ^ 62) ≤ x) (k : x ≤ 2 ^ 62) : Builtin.Range.rangeFitsLong x = true := by
  unfold Builtin.Range.rangeFitsLong
  simp only [Bool.and_eq_true, decide_eq_true_eq]
  omega
theorem rg_small {a b : Int} (h : RgOk a b) : Builtin.Range.small a b 1 = true := by
  obtain ⟨h1, h2, h3, h4, h5⟩ := h
  unfold Builtin.Range.small
  rw [rg_size, rg_fit h1 (by omega), rg_fit h3 (by omega), rg_fit (x := 1) (by decide) (by decide), rg_fit (x := ((b - a).toNat : Int)) (by omega) (by omega), if_pos (by decide), rg_fit (x := b + (1 - 1)) (by omega) (by omega)]
  simp
def tTupRgF (te : L2.St → Hp → (Int → Int → Hp → Prop) → Prop) : TE := fun σ H Q => te σ H fun a b H1 => RgOk a b ∧ ∀ (q : Addr) (o : Obj), H1 q = none → TupO o → Q (V.ref q) (upd H1 q (.frz o (.tup (rgV a b))))
theorem pe_tupRgF {p : Pos} {e : Expr} {te : L2.St → Hp → (Int → Int → Hp → Prop) → Prop} (hc : X.calm = true) (hg : Gl X "tuple") (hm : X.mg "tuple" = none) (he : PRg X e te) (na : starEach [e] X.env = (false, eval e X.env) :: starEach [] X.env := by rfl) : PE X (.Call (.Name "tuple" p) [e] [] pos) (tTupRgF te) := ⟨fun pins s σ H Q I q => by
  refine Call_ (ld_blt I hg hm (u := .type "tuple") rfl (PyProof.Rows.callWith_type1 (wpAny_items_cons (thn (he pins s σ H _ I q) fun x s1 ⟨r, a, b, t, u, v, H1, ex, hr, I1, hq⟩ => wpAny_items_nil ?_) na) na rfl))
  subst ex
  obtain ⟨h0, hq⟩ := hq
  have h5 := h0.2.2.2.2
  refine call_tuple_range (n := (b - a).toNat) (I1.ok.hd hc) hr (rg_small h0) rg_size h5 fun h' tk acc hk hi => ?_
  · have hv := items_rg hi
    have hh := tnew (t' := tk) I1 hv (by rw [Array.length_toList, hi.1, sizeLine_eq]; exact h5) hk
    exact ⟨.ref h'.objs.size, _, hh, rfl, hq _ _ (I1.kept (t' := tk) hk).fresh ⟨_, rfl⟩⟩⟩
theorem pu_tupRg {p : Pos} {e : Expr} {t : DG} (hc : X.calm = true) (hg : Gl X "tuple") (hm : X.mg "tuple" = none) (he : PuR M W X e t) (na : starEach [e] X.env = (false, eval e X.env) :: starEach [] X.env := by rfl) : PuE M W X (.Call (.Name "tuple" p) [e] [] pos) (dRgT t) :=
  PEimp (pe_tupRgF hc hg hm he na) fun σ H QV ⟨H0, F, ρ, Q, E, k, ht, q, e⟩ => by
    refine ⟨H0, F, ρ, _, E, k, ht, fun i j H' F' g hq => ⟨hq.1, ?_⟩, e⟩
    exact new_tup g.self (rgV_rep i j) fun v H'' F'' g' r => q v H'' F'' _ (g.trans g') r hq.2
end
end PL
set_option Elab.async false
set_option linter.all false
set_option maxRecDepth 100000
namespace PL
open PySem PySem.Spec PyProof.Rows L2

/-! ### where things lie: again without the own address -/
section
variable {M : Am} {W : WX} {X : Cx} {pos : Pos}

/-! ### methods of lists and tuples -/
def ixOf (ds : List D) (x : D) : Ret := match ds.findIdx? (fun d => eqv d x) with
  | some j => .cond ((okd x && okd (.lst ds)) = true) (.int (j : Nat))
  | none => .no
def indexD (r : D) (xs : List D) : Ret := match r, xs with
  | .lst ds, [x] => ixOf ds x
  | .tup ds, [x] => ixOf ds x
  | _, _ => .no
def cntOf (ds : List D) (x : D) : Ret := .cond ((okd x && okd (.lst ds)) = true) (.int (ds.countP (fun d => eqv d x) : Nat))
def countD (r : D) (xs : List D) : Ret := match r, xs with
  | .lst ds, [x] => cntOf ds x
  | .tup ds, [x] => cntOf ds x
  | _, _ => .no
def isSeq : D → Prop
  | .lst _ => True
  | .tup _ => True
  | _ => False
def dMth (f : D → List D → Ret) (t : DT) (ts : List DT) : DT := fun ρ Q E => t ρ (fun x => isSeq x ∧ dArgs ts ρ (fun ds => (f x ds).to Q) E) E
/-- a method of both, by data -/
def MtD (M : Am) (X : Cx) (name : Str) (f : D → List D → Ret) : Prop := ∀ T, T = "list" ∨ T = "tuple" → ∃ id, Slot T name id ∧ typeOf (.builtin id) = pure (.type "method_descriptor") ∧
  ∀ pins s σ H v us Q F dx ds dz x xs, L2.Inv X pins σ H s → L2.RelV x v → Vals xs us → Gr M F H F H → ARep X.K X.mg M F H dx x → ARepL X.K X.mg M F H ds xs → s.TypeIs v T → (f dx ds).is dz → (∀ v H' F', Gr M F H F' H' → Rep X.K X.mg M F' dz v → Q v H') →
    wpAny (model X.prog X.w) X.A (call (.builtin id) (v :: us)) (EP X pins σ Q) X.xe s
theorem seq_type {pins : List (Addr × Obj)} {σ : L2.St} {H F : Hp} {s : Shared} (I : L2.Inv X pins σ H s) {d : D} {x : V} {v : Value} (g : Gr M F H F H) (hd : isSeq d) (r : ARep X.K X.mg M F H d x) (rv : L2.RelV x v) :
    ∃ T, (T = "list" ∨ T = "tuple") ∧ s.TypeIs v T ∧ PlainAttrs T ∧ ∀ a, v = .ref a → ∃ ob, s.heap.get? a = some ob ∧ ob.dict = none := by
  cases d <;> first
    | exact hd.elim
    | skip
  case lst ds =>
    obtain ⟨a, vs, rfl, _, h, rl⟩ := r
    cases rv
    obtain ⟨_, its, n, _, _, g1⟩ := I.lstM h
    exact ⟨"list", .inl rfl, ⟨_, g1, rfl⟩, PySem.F.plainAttrs_list, fun b e => by cases e; exact ⟨_, g1, rfl⟩⟩
  case tup ds =>
    obtain ⟨a, vs, us, rfl, g1, _⟩ := arep_tupO I g.inn r
    cases rv
    exact ⟨"tuple", .inr rfl, ⟨_, g1, rfl⟩, PySem.F.plainAttrs_tuple, fun b e => by cases e; exact ⟨_, g1, rfl⟩⟩
theorem pu_mth {o e : Expr} {es : List Expr} {name : Str} {apos cpos : Pos} {f : D → List D → Ret} {t : DT} {ts : List DT} (hm : MtD M X name f) (ho : PuB M W X o t) (ha : PuAB M W X (e :: es) ts)
    (hb : attributeBase o name X.env (eval o X.env) = eval o X.env := by rfl) (hf : ((((backTo cpos (starEach (e :: es) X.env)).all fun x => !x.fst) && (backToKw cpos (keywordEach [] X.env)).all fun x => x.fst.isSome) && decide (((e :: es).length + ([] : List Keyword).length + if ([] : List Keyword).isEmpty = true then 0 else 1) < 30)) = true := by rfl)
    (hl : (apos.endLine == cpos.line) = true := by rfl) (hs : starEach (e :: es) X.env = (false, eval e X.env) :: starEach es X.env := by rfl) (hpl : (backTo cpos (starEach es X.env)).any (·.1) = false := by rfl) :
    PuE M W X (.Call (.Attribute o name apos) (e :: es) [] cpos) (dMth f t ts) := ⟨fun pins s σ H QV I ⟨H0, F, ρ, Q, E, k, ht, q, ee⟩ => by
  refine wpAny_Call_method_late hb hf hl rfl (thn (ho.run pins s σ H (fun x H1 => ∃ F1 dx, Gr M F H F1 H1 ∧ ARep X.K X.mg M F1 H1 dx x ∧ isSeq dx ∧ dArgs ts ρ (fun ds => (f dx ds).to Q) E) I ⟨H0, F, ρ, _, E, k, ht, fun v H1 F1 d g r hq => ⟨F1, d, g, r, hq⟩, ee⟩) fun v s1 ⟨x, H1, I1, rv, F1, dx, g1, r1, hd, hq⟩ => ?_)
  obtain ⟨T, hT, ty, pa, nd⟩ := seq_type I1 g1.self hd r1 rv
  obtain ⟨id, sl, td, hc⟩ := hm T hT
  refine ⟨T, id, pa, sl, td, ty, nd, PyProof.Rows.callWith_method1 (thn (ha.run cpos pins s1 σ H1 (fun xs H2 => ∃ F2 ds, Gr M F1 H1 F2 H2 ∧ ARepL X.K X.mg M F2 H2 ds xs ∧ (f dx ds).to Q) I1 (allB_imp ts (k.grow g1) hq (fun xs H2 F2 ds g2 r2 _ h2 => ⟨F2, ds, g2, r2, h2⟩) fun x c dx H' F' g' => ee x c dx H' F' (g1.trans g'))) fun us s2 ⟨xs, H2, I2, rvs, F2, ds, g2, r2, h2⟩ => ?_) hs hpl⟩
  obtain ⟨dz, ez, h2⟩ := Ret.of h2
  have r1' := r1.grow g2
  obtain ⟨T', hT', ty', _⟩ := seq_type I2 g2.self hd r1' rv
  have : T' = T := by
    cases dx <;> first
      | exact hd.elim
      | skip
    case lst =>
      obtain ⟨a, vs, rfl, _, h, rl⟩ := r1
      cases rv
      obtain ⟨_, its, n, _, _, g3⟩ := I1.lstM h
      obtain ⟨o1, e1, c1⟩ := ty
      rw [g3] at e1; cases e1
      obtain ⟨a', vs', e', _, h', rl'⟩ := r1'
      cases e'
      obtain ⟨_, its', n', _, _, g4⟩ := I2.lstM h'
      obtain ⟨o2, e2, c2⟩ := ty'
      rw [g4] at e2; cases e2
      simp only [Value.type.injEq] at c1 c2
      rw [← c1, ← c2]
    case tup =>
      obtain ⟨a, vs, us, rfl, g3, _⟩ := arep_tupO I1 g1.inn r1
      cases rv
      obtain ⟨o1, e1, c1⟩ := ty
      rw [g3] at e1; cases e1
      obtain ⟨a', vs', us', e', g4, _⟩ := arep_tupO I2 g2.inn r1'
      cases e'
      obtain ⟨o2, e2, c2⟩ := ty'
      rw [g4] at e2; cases e2
      simp only [Value.type.injEq] at c1 c2
      rw [← c1, ← c2]
  subst this
  exact hc pins s2 σ H2 v us QV F2 dx ds dz x xs I2 rv rvs g2.self r1' r2 ty' ez fun v H' F' g r => q v H' F' dz (g1.trans (g2.trans g)) r h2⟩

theorem py_find {x : D} (hx : okd x = true) : ∀ (ds : List D) (n : Nat), okvL n ds = true → n ≤ 60 → (pyL ds).map (fun y => y.eqv x.py) = ds.map fun d => eqv d x
  | [], _, _, _ => rfl
  | d :: ds, n, h, hn => by
    simp only [okvL, Bool.and_eq_true] at h
    simp only [pyL, List.map_cons]
    rw [py_eqv d x n 60 h.1 hx, py_find hx ds n h.2 hn]
theorem okd_seq {ds : List D} : okd (.lst ds) = okvL 59 ds := by simp [okd, okv]
/-- the items of a list or a tuple, read -/
theorem seq_items (hu : X.A.units + 65 < cLine) {pins : List (Addr × Obj)} {σ : L2.St} {H F : Hp} {s : Shared} (I : L2.Inv X pins σ H s) (g : Gr M F H F H) {d dx : D} {ds : List D} {x y : V} {v u : Value} {T : String} (rx : ARep X.K X.mg M F H d x) (rv : L2.RelV x v) (ty : s.TypeIs v T) (ry : ARep X.K X.mg M F H dx y) (ru : L2.RelV y u) (hx : okd dx = true) (hd : okd (.lst ds) = true) (hT : T = "list" ∧ d = .lst ds ∨ T = "tuple" ∧ d = .tup ds) :
    ∃ a items, v = .ref a ∧ (T = "list" → ∃ n, s.heap.get? a = some { cls := .type "list", data := .seq items n }) ∧ (T = "tuple" → s.heap.get? a = some { cls := .type "tuple", data := .seq items }) ∧ items.size = ds.length ∧ ds.length ≤ sizeLine ∧
      (∀ z ∈ items, SeqAt.EqAt X.A.in1 s z u ((SeqAt.readOf s.heap z).eqv dx.py)) ∧ items.toList.map (fun z => (SeqAt.readOf s.heap z).eqv dx.py) = ds.map fun d => eqv d dx := by
  obtain ⟨bs, q2⟩ := Dp.reads I _ y u (arep_dp g.inn hx ry) ru
  have fin : ∀ (a : Addr) (items : Array Value) (as : List Addr), ReadsAll s.heap items.toList (pyL ds) as → (∀ z ∈ items, SeqAt.EqAt X.A.in1 s z u ((SeqAt.readOf s.heap z).eqv dx.py)) ∧ items.toList.map (fun z => (SeqAt.readOf s.heap z).eqv dx.py) = ds.map fun d => eqv d dx := fun a items as ra => by
    have h1 := okd_shaped hx
    have hl := py_layL ds 59 (by rw [← okd_seq]; exact hd)
    refine ⟨SeqAt.items_eqAt ra q2 hl.1 (SeqAt.canLay_of_shaped h1) ?_, ?_⟩
    · have := hl.2
      omega
    · have e1 := SeqAt.readsAll_map (pyL ds) items.toList as hl.1 ra
      rw [← py_find hx ds 59 (by rw [← okd_seq]; exact hd) (by omega), ← e1, List.map_map]
      rfl
  rcases hT with ⟨rfl, rfl⟩ | ⟨rfl, rfl⟩
  · obtain ⟨as, q1⟩ := Dp.reads I (.list (pyL ds)) x v (arep_dp (d := .lst ds) g.inn hd rx) rv
    obtain ⟨a, vs, rfl, _, h, rl⟩ := rx
    cases rv
    obtain ⟨hz, its, n, hv, hlen, g1⟩ := I.lstM h
    cases q1 with
    | list e1 e2 e3 e4 =>
      rw [g1] at e1; cases e1
      cases e3
      obtain ⟨f1, f2⟩ := fin a _ _ e4
      refine ⟨a, _, rfl, fun _ => ⟨n, g1⟩, fun z => (by simp at z), ?_, ?_, f1, f2⟩
      · rw [List.size_toArray, ← hlen, rl.length]
      · rw [← rl.length]; exact hz
  · obtain ⟨as, q1⟩ := Dp.reads I (.tuple (pyL ds)) x v (arep_dp (d := .tup ds) g.inn (by simpa [okd, okv] using hd) rx) rv
    obtain ⟨a, vs, us, rfl, g1, hv, hz, _, rl⟩ := arep_tupO I g.inn rx
    cases rv
    cases q1 with
    | tuple e1 e2 e3 e4 =>
      rw [g1] at e1; cases e1
      cases e3
      obtain ⟨f1, f2⟩ := fin a _ _ e4
      refine ⟨a, _, rfl, fun z => (by simp at z), fun _ => g1, ?_, ?_, f1, f2⟩
      · rw [List.size_toArray, ← hv.length, rl.length]
      · rw [← rl.length, hv.length]; exact hz
theorem cnt_map {α : Type} (p : α → Bool) : ∀ l : List α, l.countP p = (l.map p).countP id
  | [] => rfl
  | a :: l => by simp only [List.countP_cons, List.map_cons, cnt_map p l]; rfl
theorem fnd_map {α : Type} (p : α → Bool) (l : List α) : l.findIdx? p = (l.map p).findIdx? id := by
  rw [List.findIdx?_map]; rfl
theorem seqT_of {d : D} {T : String} {x : V} {H F : Hp} {pins : List (Addr × Obj)} {σ : L2.St} {s : Shared} (I : L2.Inv X pins σ H s) (g : Gr M F H F H) {v : Value} (r : ARep X.K X.mg M F H d x) (rv : L2.RelV x v) (ty : s.TypeIs v T) {ds : List D} (h : d = .lst ds ∨ d = .tup ds) : T = "list" ∧ d = .lst ds ∨ T = "tuple" ∧ d = .tup ds := by
  rcases h with rfl | rfl
  · obtain ⟨a, vs, rfl, _, h, rl⟩ := r
    cases rv
    obtain ⟨_, its, n, _, _, g3⟩ := I.lstM h
    obtain ⟨o1, e1, c1⟩ := ty
    rw [g3] at e1; cases e1
    simp only [Value.type.injEq] at c1
    exact .inl ⟨c1.symm, rfl⟩
  · obtain ⟨a, vs, us, rfl, g3, _⟩ := arep_tupO I g.inn r
    cases rv
    obtain ⟨o1, e1, c1⟩ := ty
    rw [g3] at e1; cases e1
    simp only [Value.type.injEq] at c1
    exact .inr ⟨c1.symm, rfl⟩
theorem mtd_count (hu : X.A.units + 65 < cLine) : MtD M X "count" countD := by
  intro T hT
  have main : ∀ (pins : List (Addr × Obj)) (s : Shared) (σ : L2.St) (H : Hp) (v : Value) (us : List Value) (Q : VK) (F : Hp) (dx : D) (ds : List D) (dz : D) (x : V) (xs : List V), L2.Inv X pins σ H s → L2.RelV x v → Vals xs us → Gr M F H F H → ARep X.K X.mg M F H dx x → ARepL X.K X.mg M F H ds xs → s.TypeIs v T → (countD dx ds).is dz → (∀ v H' F', Gr M F H F' H' → Rep X.K X.mg M F' dz v → Q v H') →
      ∃ a u items n, v = .ref a ∧ us = [u] ∧ s.heap.get? a = some { cls := .type T, data := .seq items n } ∧ ∃ e : Value → Bool, (∀ z ∈ items, SeqAt.EqAt X.A.in1 s z u (e z)) ∧ Q (.int (items.toList.countP e : Nat)) H := by
    intro pins s σ H v us Q F dx ds dz x xs I rv rvs g r rl ty e q
    obtain ⟨zs, y, hz, hy, e2⟩ : ∃ zs y, (dx = .lst zs ∨ dx = .tup zs) ∧ ds = [y] ∧ (cntOf zs y).is dz := by
      unfold countD at e
      split at e
      · exact ⟨_, _, .inl rfl, rfl, e⟩
      · exact ⟨_, _, .inr rfl, rfl, e⟩
      · exact e.elim
    · subst hy
      obtain ⟨hk, rfl⟩ := e2
      rw [Bool.and_eq_true] at hk
      obtain ⟨w, rfl, rw⟩ := rl.one
      obtain ⟨u, rfl, ru⟩ := Vals.one rvs
      have hT' := seqT_of I g r rv ty hz
      obtain ⟨a, items, rfl, k1, k2, hsz, hl, f1, f2⟩ := seq_items hu I g r rv ty rw ru hk.1 hk.2 hT'
      have hget : ∃ n, s.heap.get? a = some { cls := .type T, data := .seq items n } := by
        rcases hT' with ⟨rfl, _⟩ | ⟨rfl, _⟩
        · exact k1 rfl
        · exact ⟨_, k2 rfl⟩
      obtain ⟨n, hget⟩ := hget
      refine ⟨a, u, items, n, rfl, rfl, hget, _, f1, ?_⟩
      rw [cnt_map, f2, ← cnt_map]
      exact q _ H F g rfl
  rcases hT with rfl | rfl
  · refine ⟨"list.count", PySem.F.slot_list_count, PySem.F.type_list_count, ?_⟩
    intro pins s σ H v us Q F dx ds dz x xs I rv rvs g r rl ty e q
    obtain ⟨a, u, items, n, rfl, rfl, hget, e', f1, hq⟩ := main pins s σ H v us Q F dx ds dz x xs I rv rvs g r rl ty e q
    exact call_meets PySem.F.slot_list_count ty PySem.F.entry_list_count (PySem.F.args_list_count_2 _ _) (SeqAt.list_countAt a items n none #[] u e') ⟨hget, f1, ⟨.int _, _, I.tok _, ⟨_, rfl⟩, hq⟩⟩
  · refine ⟨"tuple.count", PySem.F.slot_tuple_count, PySem.F.type_tuple_count, ?_⟩
    intro pins s σ H v us Q F dx ds dz x xs I rv rvs g r rl ty e q
    obtain ⟨a, u, items, n, rfl, rfl, hget, e', f1, hq⟩ := main pins s σ H v us Q F dx ds dz x xs I rv rvs g r rl ty e q
    exact call_meets PySem.F.slot_tuple_count ty PySem.F.entry_tuple_count (PySem.F.args_tuple_count_2 _ _) (SeqAt.tuple_countAt a items n none #[] u e') ⟨hget, f1, ⟨.int _, _, I.tok _, ⟨_, rfl⟩, hq⟩⟩
theorem mtd_index (hu : X.A.units + 65 < cLine) : MtD M X "index" indexD := by
  intro T hT
  have main : ∀ (pins : List (Addr × Obj)) (s : Shared) (σ : L2.St) (H : Hp) (v : Value) (us : List Value) (Q : VK) (F : Hp) (dx : D) (ds : List D) (dz : D) (x : V) (xs : List V), L2.Inv X pins σ H s → L2.RelV x v → Vals xs us → Gr M F H F H → ARep X.K X.mg M F H dx x → ARepL X.K X.mg M F H ds xs → s.TypeIs v T → (indexD dx ds).is dz → (∀ v H' F', Gr M F H F' H' → Rep X.K X.mg M F' dz v → Q v H') →
      ∃ a u items n j, v = .ref a ∧ us = [u] ∧ s.heap.get? a = some { cls := .type T, data := .seq items n } ∧ ∃ (e : Value → Bool) (hj : j < items.size), (∀ z ∈ items, SeqAt.EqAt X.A.in1 s z u (e z)) ∧ e items[j] = true ∧ (∀ (m : Nat) (hm : m < items.size), m < j → e items[m] = false) ∧ j < 16777216 ∧ Q (.int (j : Nat)) H := by
    intro pins s σ H v us Q F dx ds dz x xs I rv rvs g r rl ty e q
    obtain ⟨zs, y, hz, hy, e2⟩ : ∃ zs y, (dx = .lst zs ∨ dx = .tup zs) ∧ ds = [y] ∧ (ixOf zs y).is dz := by
      unfold indexD at e
      split at e
      · exact ⟨_, _, .inl rfl, rfl, e⟩
      · exact ⟨_, _, .inr rfl, rfl, e⟩
      · exact e.elim
    · subst hy
      unfold ixOf at e2
      split at e2
      · rename_i j hj
        obtain ⟨hk, rfl⟩ := e2
        rw [Bool.and_eq_true] at hk
        obtain ⟨w, rfl, rw⟩ := rl.one
        obtain ⟨u, rfl, ru⟩ := Vals.one rvs
        have hT' := seqT_of I g r rv ty hz
        obtain ⟨a, items, rfl, k1, k2, hsz, hl, f1, f2⟩ := seq_items hu I g r rv ty rw ru hk.1 hk.2 hT'
        have hget : ∃ n, s.heap.get? a = some { cls := .type T, data := .seq items n } := by
          rcases hT' with ⟨rfl, _⟩ | ⟨rfl, _⟩
          · exact k1 rfl
          · exact ⟨_, k2 rfl⟩
        obtain ⟨n, hget⟩ := hget
        rw [fnd_map, ← f2, ← fnd_map, List.findIdx?_eq_some_iff_getElem] at hj
        obtain ⟨h1, h2, h3⟩ := hj
        have h1' : j < items.size := by simpa using h1
        refine ⟨a, u, items, n, j, rfl, rfl, hget, _, h1', f1, by simpa using h2, fun m hm hmj => by simpa using h3 m hmj, ?_, q _ H F g rfl⟩
        rw [sizeLine_eq] at hl
        omega
      · exact e2.elim
  rcases hT with rfl | rfl
  · refine ⟨"list.index", PySem.F.slot_list_index, PySem.F.type_list_index, ?_⟩
    intro pins s σ H v us Q F dx ds dz x xs I rv rvs g r rl ty e q
    obtain ⟨a, u, items, n, j, rfl, rfl, hget, e', hj, f1, h1, h2, h3, hq⟩ := main pins s σ H v us Q F dx ds dz x xs I rv rvs g r rl ty e q
    exact call_meets PySem.F.slot_list_index ty PySem.F.entry_list_index (PySem.F.args_list_index_2 _ _) (SeqAt.list_indexAt a items n none #[] u e' j hj (by omega) h1 h2) ⟨hget, f1, ⟨.int _, _, I.tok _, ⟨_, rfl⟩, hq⟩⟩
  · refine ⟨"tuple.index", PySem.F.slot_tuple_index, PySem.F.type_tuple_index, ?_⟩
    intro pins s σ H v us Q F dx ds dz x xs I rv rvs g r rl ty e q
    obtain ⟨a, u, items, n, j, rfl, rfl, hget, e', hj, f1, h1, h2, h3, hq⟩ := main pins s σ H v us Q F dx ds dz x xs I rv rvs g r rl ty e q
    exact call_meets PySem.F.slot_tuple_index ty PySem.F.entry_tuple_index (PySem.F.args_tuple_index_2 _ _) (TI.tuple_indexAt a items n none #[] u e' j hj h1 h2) ⟨hget, f1, ⟨.int _, _, I.tok _, ⟨_, rfl⟩, hq⟩⟩
end
end PL
set_option Elab.async false
set_option linter.all false
set_option maxRecDepth 100000
namespace PL
open PySem PySem.Spec PyProof.Rows L2

/-! ### one ambient for another: only where one's own thing lies differs -/
def Am.at (M : Am) (a : Addr) : Am := { M with self := a }
section
variable {K : PySem.W.Frag} {mg : Str → Option Value} {M : Am} {x : Addr} {F : Hp}
mutual
theorem rep_at : ∀ (d : D) {v : V}, Rep K mg M F d v → Rep K mg (M.at x) F d v
  | .non, _, h => h
  | .bl _, _, h => h
  | .int _, _, h => h
  | .str _, _, h => h
  | .ty _, _, h => h
  | .glo _, _, h => h
  | .hand, _, h => h
  | .tup ds, _, h => by
    obtain ⟨a, o, vs, e, q, t, r⟩ := h
    exact ⟨a, o, vs, e, q, t, repL_at ds r⟩
  | .lst ds, _, h => by
    obtain ⟨a, vs, e, q, r⟩ := h
    exact ⟨a, vs, e, q, repL_at ds r⟩
  | .dct ks xs, _, h => by
    obtain ⟨a, kvs, e, q, r1, r2⟩ := h
    exact ⟨a, kvs, e, q, repL_at ks r1, repL_at xs r2⟩
  | .tdc ks xs, _, h => by
    obtain ⟨z, a, o, es, vs, e, b, q, t, l, n, r1, r2, w⟩ := h
    exact ⟨z, a, o, es, vs, e, b, q, t, l, n, repL_at ks r1, repL_at xs r2, w⟩
  | .obj c ns ds, _, h => by
    obtain ⟨a, C, dx, fs, e, m, q, r1, r2⟩ := h
    exact ⟨a, C, dx, fs, e, m, q, r1, repL_at ds r2⟩
theorem repL_at : ∀ (ds : List D) {vs : List V}, RepL K mg M F ds vs → RepL K mg (M.at x) F ds vs
  | [], _, h => h
  | d :: ds, _, h => by
    obtain ⟨v, vs, e, r, q⟩ := h
    exact ⟨v, vs, e, rep_at d r, repL_at ds q⟩
end
theorem at_at : (M.at x).at M.self = M := rfl
theorem rep_of_at {d : D} {v : V} (h : Rep K mg (M.at x) F d v) : Rep K mg M F d v := by
  have := rep_at (x := M.self) d h
  exact this
theorem gr_at {F H F' H' : Hp} (g : Gr M F H F' H') : Gr (M.at x) F H F' H' := ⟨g.ext, g.sub, g.inn, g.off, g.new, g.inv⟩
theorem gr_of_at {F H F' H' : Hp} (g : Gr (M.at x) F H F' H') : Gr M F H F' H' := ⟨g.ext, g.sub, g.inn, g.off, g.new, g.inv⟩
theorem xrep_of_at {F H : Hp} {e : EX} {c : Value} {dx : Option Addr} (h : XRep K mg (M.at x) F H e c dx) : XRep K mg M F H e c dx := by
  obtain ⟨C, h1, h2, h3⟩ := h
  refine ⟨C, h1, h2, fun f d q => ?_⟩
  obtain ⟨a, fs, v, a1, a2, a3, a4⟩ := h3 f d q
  exact ⟨a, fs, v, a1, a2, a3, rep_of_at a4⟩
end

/-! ### fields -/
/-- a class of the module with plain attributes; its things have the field f -/
def ClsF (K : PySem.W.Frag) (mg : Str → Option Value) (c f : Str) : Prop := ∃ C, mg c = some (.ref C) ∧ Cls K C ∧ NoAttr K C f
def getF (f : Str) : List Str → List D → Option D
  | g :: ns, d :: ds => if g = f then some d else getF f ns ds
  | _, _ => none
theorem getF_get {K : PySem.W.Frag} {mg : Str → Option Value} {M : Am} {F : Hp} {f : Str} : ∀ {fs : List (Str × V)} {ns : List Str} {ds : List D} {d : D}, fs.map (·.1) = ns → RepL K mg M F ds (fs.map (·.2)) → getF f ns ds = some d → ∃ v, fs.lookup f = some v ∧ Rep K mg M F d v
  | [], ns, ds, d, e, r, h => by
    have : ns = [] := e.symm
    subst this
    cases ds <;> simp [getF] at h
  | p :: fs, ns, ds, d, e, r, h => by
    subst e
    cases ds with
    | nil => simp [RepL] at r
    | cons d0 ds =>
      obtain ⟨v, vs, e1, r1, r2⟩ := r
      simp only [List.map_cons, List.cons.injEq] at e1
      obtain ⟨e1, e2⟩ := e1
      simp only [List.map_cons, getF] at h
      by_cases z : p.1 = f
      · rw [if_pos z] at h; cases h
        refine ⟨p.2, ?_, by rw [e1]; exact r1⟩
        obtain ⟨a, b⟩ := p
        simp only at z
        subst z
        simp [List.lookup]
      · rw [if_neg z] at h
        obtain ⟨v', h1, h2⟩ := getF_get (fs := fs) rfl (by rw [e2]; exact r2) h
        refine ⟨v', ?_, h2⟩
        obtain ⟨a, b⟩ := p
        simp only at z
        have : (f == a) = false := by simpa using fun e => z e.symm
        simp [List.lookup, this, h1]
section
variable {M : Am} {W : WX} {X : Cx} {pos : Pos}
def dFld (cs : List Str) (f : Str) (t : DT) : DT := fun ρ Q E => t ρ (fun d => match d with | .obj c ns vs => c ∈ cs ∧ (match getF f ns vs with | some x => Q x | none => False) | _ => False) E
theorem pu_fld {e : Expr} {f : Str} {t : DT} {cs : List Str} (hc : ∀ c ∈ cs, ClsF X.K X.mg c f) (he : PuB M W X e t) (hb : attributeBase e f X.env (eval e X.env) = eval e X.env := by rfl) : PuE M W X (.Attribute e f pos) (dFld cs f t) :=
  PEimp (pe_fld he hb) fun σ H QV ⟨H0, F, ρ, Q, E, k, ht, q, e⟩ => by
    refine ⟨H0, F, ρ, _, E, k, ht, fun v H1 F1 d g r hq => ?_, e⟩
    cases d <;> first
      | exact hq.elim
      | skip
    case obj c ns ds =>
      obtain ⟨hm, hq⟩ := hq
      split at hq
      · rename_i x hx
        obtain ⟨C, h1, h2, h3⟩ := hc c hm
        obtain ⟨a, C', dx, fs, rfl, nf, m, hH, en, rl⟩ := r
        rw [h1] at m; cases m
        obtain ⟨w, l1, r1⟩ := getF_get en rl hx
        exact ⟨a, C, dx, fs, w, rfl, hH, h2, h3, l1, q w H1 F1 x g r1 hq⟩
      · exact hq.elim
theorem putF_new {f : Str} {v : V} : ∀ {fs : List (Str × V)}, f ∉ fs.map (·.1) → putF f v fs = fs ++ [(f, v)]
  | [], _ => rfl
  | p :: fs, h => by
    obtain ⟨a, b⟩ := p
    simp only [List.map_cons, List.mem_cons, not_or] at h
    have : putF f v ((a, b) :: fs) = if a = f then (a, v) :: fs else (a, b) :: putF f v fs := rfl
    rw [this, if_neg (fun z => h.1 z.symm), putF_new h.2]
    rfl
/-- self.f = e: a new field of a thing of one's own -/
def dSetF (i : Nat) (cn f : Str) (t : DT) : DS := fun N ρ => t ρ (fun d => match ρ[i]? with
  | some (some (.own (.obj c ns vs))) => c = cn ∧ f ∉ ns ∧ ns.length < 900 ∧ N.nx (ρ.set i (some (.own (.obj c (ns ++ [f]) (vs ++ [d])))))
  | _ => False) N.ex
theorem pu_setF {i : Nat} {o e : Expr} {cn f : Str} {t : DT} {pos' : Pos} (hc : ClsF X.K X.mg cn f) (ho : PE X o (tVar i)) (he : PuE M W X e t) (hs : swapsWith e (some (.Attribute o f pos')) pos.line X.env = pure false := by rfl) :
    PuS M W X (.Assign [.Attribute o f pos'] e pos) (dSetF i cn f t) := PSimp (ps_fld ho he hs) fun D σ H ⟨F0, H0, F, ρ, N, k, ht, q1, _, _, q4, q5⟩ => by
  refine ⟨H0, F, ρ, _, N.ex, k.env, ht, fun v H1 F1 d g r hq => ?_, fun x c dx H' F' g => q5 x c dx σ H' F' (k.gr.trans g)⟩
  split at hq
  · rename_i c ns vs e1
    obtain ⟨rfl, hn, hz, hq⟩ := hq
    obtain ⟨v0, e2, r0⟩ := (k.env.grow g).slot i _ e1
    obtain ⟨a, C, dx, fs, rfl, hs, m, hH, en, rl⟩ := r0
    obtain ⟨C', m', c1, c2⟩ := hc
    rw [m] at m'; cases m'
    refine ⟨_, e2, a, C, dx, fs, rfl, hH, c1, c2, ?_, ?_⟩
    · have := congrArg List.length en
      rw [List.length_map] at this
      omega
    · rw [putF_new (by rw [en]; exact hn)]
      refine q1 σ _ F1 _ g.sub (k.upd (d' := .obj c (ns ++ [f]) (vs ++ [d])) g e1 e2 ⟨a, C, dx, fs ++ [(f, v)], rfl, hs, m, upd_same, ?_, ?_⟩) hq
      · rw [List.map_append, en]; rfl
      · rw [List.map_append]; exact rl.snoc r
  · exact hq.elim
end
end PL
set_option Elab.async false
set_option linter.all false
set_option maxRecDepth 100000
namespace PL
open PySem PySem.Spec PyProof.Rows L2

/-! ### things are made -/
def spInit (K : PySem.W.Frag) (mg : Str → Option Value) (M : Am) (c : Str) (np : Nat) (sp : SpD) : Sp := fun vs H Q E => ∃ x dx us F H1 ds QD ED C, vs = .ref x :: us ∧ H = upd (upd H1 dx (.own x)) x (.ins C dx []) ∧ H1 x = none ∧ H1 dx = none ∧ dx ≠ x ∧ mg c = some (.ref C) ∧
  Gr M F H1 F H1 ∧ RepL K mg M F ds us ∧ ds.length = np ∧ sp ds QD ED ∧ (∀ H' F' d, Gr M F H1 F' H' → Rep K mg M F' d (.ref x) → QD d → Q .non H') ∧ ∀ x c dx H' F', Gr M F H1 F' H' → XRep K mg M F' H' x c dx → ED x → E c dx H'
/-- the module's class c: its things are made as sp says -/
def HasC (P : Program) (w : World) (K : PySem.W.Frag) (mg : Str → Option Value) (base : Heap) (k : Nat) (c : Str) (np : Nat) (sp : SpD) : Prop :=
  ∃ C f fd ps, ps.length = np + 1 ∧ mg c = some (.ref C) ∧ Mk K C f ∧ Binds K fd ps [] ∧ ∀ M : Am, AmOk w M → FnG P w K mg base k f fd ps (spInit K mg M c np sp)
theorem HasC.mono {P : Program} {w : World} {K : PySem.W.Frag} {mg : Str → Option Value} {base : Heap} {j k : Nat} {x : Str} {np : Nat} {sp : SpD} (h : HasC P w K mg base j x np sp) (l : j ≤ k) : HasC P w K mg base k x np sp := by
  obtain ⟨C, f, fd, ps, a, b, c, d, e⟩ := h
  exact ⟨C, f, fd, ps, a, b, c, d, fun M h => (e M h).mono l⟩
theorem HasC.imp {P : Program} {w : World} {K : PySem.W.Frag} {mg : Str → Option Value} {base : Heap} {k : Nat} {x : Str} {np : Nat} {sp sp' : SpD} (h : HasC P w K mg base k x np sp) (l : ∀ ds Q E, ds.length = np → sp' ds Q E → sp ds Q E) : HasC P w K mg base k x np sp' := by
  obtain ⟨C, f, fd, ps, a, b, c, d, e⟩ := h
  refine ⟨C, f, fd, ps, a, b, c, d, fun M h => (e M h).imp ?_⟩
  rintro vs H Q E ⟨x, dx, us, F, H1, ds, QD, ED, C, h1, h2, h3, h4, h5, h6, h7, h8, h9, h10, h11⟩
  exact ⟨x, dx, us, F, H1, ds, QD, ED, C, h1, h2, h3, h4, h5, h6, h7, h8, h9, l _ _ _ h9 h10, h11⟩
/-- the slots at the entry of an __init__ -/
def startI (n : Nat) (c : Str) (ds : List D) : DEnv := (startE n (.non :: ds)).set 0 (some (.own (.obj c [] [])))
def spBodyI (n : Nat) (c : Str) (t : DS) : SpD := fun ds Q E => t { nx := fun (ρ : DEnv) => match ρ[(0 : Nat)]? with | some (some (.own d)) => (match d with | .obj c ns vs => Q (.obj c ns vs) | _ => False) | _ => False, rt := fun _ => False, ex := E } (startI n c ds)
section
variable {P : Program} {w : World} {K : PySem.W.Frag} {mg : Str → Option Value} {base : Heap}
theorem fnok_init {x qual c : Str} {st : Stmt} {f : Addr} {fd : FuncData} {N ps : List Str} {k np : Nat} {t : DS} (M : Am) (F : Fun K x qual st f fd) (S : FnScope N ps (defScope st)) (hp : ps.length = np + 1)
    (body : ∀ (M : Am) (_ : AmOk w M) (cdv : Value) (A : Around) (outer : List PySem.Env) (s : Shared) (H : Hp) (E : XK), RoomG k (A.deeper (envOfC qual (defScope st) s.heap.objs.size f cdv)) →
      PuSs M (bodyW E) (bodyCx P w K mg base N qual st f cdv A outer s H E) (defBody st) t) (hM : AmOk w M) : FnG P w K mg base (k + 1) f fd ps (spInit K mg M c np (spBodyI N.length c t)) := by
  refine fng_of F S (fun vs H Q E h => ?_) fun cdv A outer s H vs Q E hr h => ?_
  · obtain ⟨x, dx, us, F, H1, ds, QD, ED, C, rfl, h2, h3, h4, h5, h6, h7, h8, h9, h10, h11⟩ := h
    rw [List.length_cons, h8.length, h9, hp]
  · obtain ⟨x, dx, us, F, H1, ds, QD, ED, C, rfl, rfl, h3, h4, h5, h6, h7, h8, h9, h10, h11, h12⟩ := h
    refine ⟨_, body (M.at x) ⟨hM.h, hM.hand⟩ cdv A outer s _ E hr, ?_⟩
    have g0 : Gr (M.at x) F H1 F H1 := gr_at h7
    have k0 := eok_start (M := M.at x) (N := N) (ds := .non :: ds) (vs := .non :: us) g0 (.cons rfl (repL_at ds h8))
    have g1 : Gr (M.at x) F H1 F (upd H1 dx (.own x)) := g0.laidH _ h4
    have nx : (upd H1 dx (.own x)) x = none := by rw [upd_ne (fun e => h5 e.symm)]; exact h3
    have g2 := g1.laidH (.ins C dx []) nx
    have k1 := k0.setO g2 0 (d := .obj c [] []) (a := x) h3 (g0.noF h3) h3 ⟨x, C, dx, [], rfl, rfl, h6, upd_same, rfl, rfl⟩
    refine ⟨F, H1, F, startI N.length c ds, _, ⟨g2, k1⟩, h10, fun σ' H' F' ρ' _ k' hq => ?_, fun _ _ _ _ _ _ z => z.elim, fun _ _ _ _ _ _ z => z.elim, fun _ _ _ _ _ _ z => z.elim, fun x c dx _ H' F' g' xr hq => h12 x c dx H' F' (gr_of_at g') (xrep_of_at xr) hq⟩
    simp only at hq
    split at hq
    · rename_i d e1
      split at hq
      · rename_i c' ns vs
        obtain ⟨v, e2, r⟩ := k'.env.slot 0 _ e1
        obtain ⟨a, C', dx', fs, rfl, hs, m, hH, en, rl⟩ := r
        have hs : a = x := hs
        subst hs
        obtain ⟨nF, nf, n0⟩ := k'.env.own 0 _ a e1 e2
        have gf := k'.gr.freeze hH n0 nf nF
        refine h11 _ _ _ (gr_of_at gf) (rep_of_at (x := a) (d := .obj c' ns vs) ⟨a, C', dx', fs, rfl, m, upd_same, en, RepL.mono (upd_sub nF) _ rl⟩) hq
      · exact hq.elim
    · exact hq.elim
theorem hasC_of {x qual c : Str} {st : Stmt} {C f : Addr} {fd : FuncData} {N ps : List Str} {k np : Nat} {t : DS} (F : Fun K x qual st f fd) (S : FnScope N ps (defScope st)) (hp : ps.length = np + 1) (gx : mg c = some (.ref C)) (mk : Mk K C f) (b : Binds K fd ps [])
    (body : ∀ (M : Am) (_ : AmOk w M) (cdv : Value) (A : Around) (outer : List PySem.Env) (s : Shared) (H : Hp) (E : XK), RoomG k (A.deeper (envOfC qual (defScope st) s.heap.objs.size f cdv)) →
      PuSs M (bodyW E) (bodyCx P w K mg base N qual st f cdv A outer s H E) (defBody st) t) : HasC P w K mg base (k + 1) c np (spBodyI N.length c t) :=
  ⟨C, f, fd, ps, hp, gx, mk, b, fun M h => fnok_init M F S hp body h⟩
end
section
variable {M : Am} {W : WX} {X : Cx} {pos : Pos}
theorem pu_make {x : Str} {p : Pos} {e : Expr} {es : List Expr} {k np : Nat} {sp : SpD} {ts : List DT} {E0 : XK} (F : HasC X.prog X.w X.K X.mg X.base k x np sp) (hM : AmOk X.w M) (hr : RoomG (k + 1) X.A) (tk : Takes X W) (hW : ∀ σ, WE W σ = E0) (hg : Gl X x) (ha : PuA M W X (e :: es) ts) (hl : ts.length = np := by rfl)
    (hdb : (x == ("__debug__" : Str)) = false := by decide) (he : starEach (e :: es) X.env = (false, eval e X.env) :: starEach es X.env := by rfl) (hpl : (backTo pos (starEach es X.env)).any (·.1) = false := by rfl) : PuE M W X (.Call (.Name x p) (e :: es) [] pos) (dFun sp ts) := by
  obtain ⟨C, f, fd, ps, hp, gm, mk, b, Fk⟩ := F
  have hx : Passes (L2.CX X.prog X.w) X E0 := fun pins σ H s e s' I h => passAt tk σ pins H s e s' I (by rw [hW σ]; exact h)
  refine PEimp (g_make mk (Fk M hM) hr hg gm b hx ha hdb he hpl) fun σ H QV ⟨H0, F, ρ, Q, E, k, ht, q, e⟩ => ?_
  refine all_imp ts k ht (fun vs H1 F1 ds g1 r1 l1 h1 => ?_) e
  intro x dx nx nd ne
  refine ⟨x, dx, vs, F1, H1, ds, Q, E, C, by rw [List.append_nil], rfl, nx, nd, ne, gm, g1.self, r1, l1.trans hl, h1, fun H' F' d g r hq => ⟨rfl, q _ H' F' d (g1.trans g) r hq⟩, fun x c dx H' F' g xr hx => ?_⟩
  have := e x c dx H' F' (g1.trans g) xr hx
  rw [← hW σ]
  exact this
end

/-! ### two names at once -/
section
variable {M : Am} {W : WX} {X : Cx} {pos : Pos}
/-- a reading: of a datum, of a new thing of one's own -/
inductive RK where
  | v | o
def tK (k : RK) (M : Am) (W : WX) (X : Cx) (t : DT) : TE := match k with
  | .v => tE M W X t
  | .o => tO M W X t
def cK (k : RK) (d : D) : C := match k with
  | .v => .val d
  | .o => .own d
abbrev PuK (k : RK) (M : Am) (W : WX) (X : Cx) (e : Expr) (t : DT) : Prop := PE X e (tK k M W X t)
theorem own_grow {F H F' H' : Hp} {d : D} {a : Addr} (g : Gr M F H F' H') (nF : F a = none) (nf : ¬ M.fp a) (r : ORep X.K X.mg M F H d (.ref a)) : ORep X.K X.mg M F' H' d (.ref a) ∧ F' a = none := by
  obtain ⟨b, o, e, q, _⟩ := ORep.addr r
  cases e
  refine ⟨ORep.mono r g.sub ((g.ext a o nf q).trans q.symm), ?_⟩
  cases z : F' a with
  | none => rfl
  | some u =>
    rcases g.new a u z with y | y
    · rw [nF] at y; cases y
    · rw [q] at y; cases y
def dPar (i j : Nat) (k l : RK) (t u : DT) : DS := fun N ρ => t ρ (fun d => u ρ (fun e => N.nx ((ρ.set i (some (cK k d))).set j (some (cK l e)))) N.ex) N.ex
/-- what a reading gives at the end -/
def KRep (k : RK) (M : Am) (X : Cx) (H1 H0 F H : Hp) (d : D) (v : V) : Prop := match k with
  | .v => Rep X.K X.mg M F d v
  | .o => ∃ a, v = .ref a ∧ F a = none ∧ ¬ M.fp a ∧ H1 a = none ∧ H0 a = none ∧ ORep X.K X.mg M F H d (.ref a)
theorem KRep.grow {k : RK} {H1 H0 F H F' H' : Hp} {d : D} {v : V} (g : Gr M F H F' H') (r : KRep k M X H1 H0 F H d v) : KRep k M X H1 H0 F' H' d v := by
  cases k with
  | v => exact Rep.mono g.sub _ r
  | o =>
    obtain ⟨a, e, nF, nf, n1, n0, r⟩ := r
    obtain ⟨r', nF'⟩ := own_grow g nF nf r
    exact ⟨a, e, nF', nf, n1, n0, r'⟩
theorem k_run {k : RK} {t : DT} {σ : L2.St} {H H0 F F0 : Hp} {ρ : DEnv} {Q : D → Prop} {E : EX → Prop} {QV : VK} (kk : SOk X.K X.mg M F0 H0 F H σ ρ) (ht : t ρ Q E) (q : ∀ v H' F' d, Gr M F H F' H' → KRep k M X H H0 F' H' d v → Q d → QV v H')
    (e : ∀ x c dx H' F', Gr M F H F' H' → XRep X.K X.mg M F' H' x c dx → E x → W c dx σ H') : tK k M W X t σ H QV := by
  cases k with
  | v => exact ⟨H0, F, ρ, Q, E, kk.env, ht, fun v H' F' d g r hq => q v H' F' d g r hq, e⟩
  | o => exact ⟨H0, F, ρ, Q, E, kk.env, ht, fun a H' F' d g n nF r hq => q _ H' F' d g ⟨a, rfl, nF, Gr.nofp kk.env.inv n, n, kk.gr.free kk.gr.inv n, r⟩ hq, e⟩
/-- a slot is given a thing of one's own that is new -/
theorem EOk.setN {H0 F H : Hp} {σ : L2.St} {ρ : DEnv} (k : EOk X.K X.mg M H0 F H σ ρ) (i : Nat) {d : D} {a : Addr} (nF : F a = none) (nf : ¬ M.fp a) (n0 : H0 a = none) (r : ORep X.K X.mg M F H d (.ref a))
    (na : ∀ (j : Nat) e b, j ≠ i → ρ[j]? = some (some (.own e)) → σ[j]? = some (some (.ref b)) → b ≠ a) : EOk X.K X.mg M H0 F H (σ.set i (some (.ref a))) (ρ.set i (some (.own d))) := by
  have at_ : ∀ (j : Nat) c, (ρ.set i (some (.own d)))[j]? = some (some c) → (j = i ∧ c = .own d ∧ i < ρ.length) ∨ (j ≠ i ∧ ρ[j]? = some (some c)) := fun j c h => by
    by_cases z : i = j
    · subst z
      by_cases hl : i < ρ.length
      · rw [List.getElem?_set_self hl] at h; cases h; exact .inl ⟨rfl, rfl, hl⟩
      · rw [List.getElem?_eq_none (by simpa using hl)] at h; cases h
    · rw [List.getElem?_set_ne z] at h; exact .inr ⟨fun q => z q.symm, h⟩
  refine ⟨k.inn, k.off, k.inv, by simp [k.len], fun j c e => ?_, fun j e b h1 h2 => ?_, fun j l e e' b h1 h2 h3 h4 => ?_⟩
  · rcases at_ j c e with ⟨rfl, rfl, hl⟩ | ⟨ne, h⟩
    · exact ⟨.ref a, by rw [List.getElem?_set_self (by rw [← k.len]; exact hl)], r⟩
    · rw [List.getElem?_set_ne (Ne.symm ne)]
      exact k.slot j c h
  · rcases at_ j _ h1 with ⟨rfl, e1, hl⟩ | ⟨ne, h⟩
    · rw [List.getElem?_set_self (by rw [← k.len]; exact hl)] at h2
      cases h2
      exact ⟨nF, nf, n0⟩
    · rw [List.getElem?_set_ne (Ne.symm ne)] at h2
      exact k.own j e b h h2
  · rcases at_ j _ h1 with ⟨rfl, e1, hl⟩ | ⟨ne, h⟩
    · rcases at_ l _ h2 with ⟨rfl, _, _⟩ | ⟨ne', h'⟩
      · rfl
      · rw [List.getElem?_set_self (by rw [← k.len]; exact hl)] at h3
        cases h3
        rw [List.getElem?_set_ne (Ne.symm ne')] at h4
        exact absurd rfl (na l e' _ ne' h' h4)
    · rcases at_ l _ h2 with ⟨rfl, _, hl⟩ | ⟨ne', h'⟩
      · rw [List.getElem?_set_self (by rw [← k.len]; exact hl)] at h4
        cases h4
        rw [List.getElem?_set_ne (Ne.symm ne)] at h3
        exact absurd rfl (na j e _ ne h h3)
      · rw [List.getElem?_set_ne (Ne.symm ne)] at h3
        rw [List.getElem?_set_ne (Ne.symm ne')] at h4
        exact k.dis j l e e' b h h' h3 h4
theorem slot_ne {H0 F H F' H' : Hp} {σ : L2.St} {ρ : DEnv} (k : EOk X.K X.mg M H0 F H σ ρ) {a : Addr} (n : H a = none) (j : Nat) (e : D) (b : Addr) (h : ρ[j]? = some (some (.own e))) (h2 : σ[j]? = some (some (.ref b))) : b ≠ a := fun z => by
  subst z
  obtain ⟨v, e2, r⟩ := k.slot j _ h
  rw [h2] at e2; cases e2
  obtain ⟨c, u, e3, q', _⟩ := ORep.addr (show ORep X.K X.mg M F H e (.ref b) from r)
  cases e3
  rw [n] at q'; cases q'
/-- .. of either kind -/
theorem EOk.setK {k : RK} {H1 H0 F H : Hp} {σ : L2.St} {ρ : DEnv} (kk : EOk X.K X.mg M H0 F H σ ρ) (i : Nat) {d : D} {v : V} (r : KRep k M X H1 H0 F H d v) (na : ∀ a, H1 a = none → ∀ (j : Nat) e b, j ≠ i → ρ[j]? = some (some (.own e)) → σ[j]? = some (some (.ref b)) → b ≠ a) : EOk X.K X.mg M H0 F H (σ.set i (some v)) (ρ.set i (some (cK k d))) := by
  cases k with
  | v => exact kk.set i r
  | o =>
    obtain ⟨a, rfl, nF, nf, n1, n0, r⟩ := r
    exact kk.setN i nF nf n0 r (na a n1)
theorem par_imp {i j : Nat} {k l : RK} {t u : DT} (hij : i ≠ j) (D : Ends) (σ : L2.St) (H : Hp) (h : tS M W X (dPar i j k l t u) D σ H) : tPar i j (tCons (tK k M W X t) (tCons (tK l M W X u) tNil)) D σ H := by
  obtain ⟨F0, H0, F, ρ, N, kk, ht, q1, _, _, q4, q5⟩ := h
  refine k_run kk ht (fun v H1 F1 d g r hq => ?_) fun x c dx H' F' g => q5 x c dx σ H' F' (kk.gr.trans g)
  have kk1 := kk.grow g
  refine k_run kk1 hq (fun w H2 F2 e g2 r2 hq2 => ?_) fun x c dx H' F' g' => q5 x c dx σ H' F' (kk.gr.trans (g.trans g'))
  have g12 := g.trans g2
  refine ⟨v, w, rfl, ?_⟩
  have kk2 := kk.grow g12
  refine q1 _ H2 F2 _ g12.sub ⟨kk2.gr, EOk.setK (EOk.setK kk2.env i (r.grow g2) fun a n j' e b _ h1 h2 => slot_ne (F' := F) (H' := H) kk.env n j' e b h1 h2) j r2 fun a n j' e' b nj h1 h2 => ?_⟩ hq2
  by_cases z : i = j'
  · subst z
    cases k with
    | v =>
      by_cases hl : i < ρ.length
      · rw [List.getElem?_set_self hl] at h1; cases h1
      · rw [List.getElem?_eq_none (by simpa using hl)] at h1; cases h1
    | o =>
      obtain ⟨a1, rfl, nF, nf, n1, n0, r⟩ := r
      intro z
      subst z
      by_cases hl : i < σ.length
      · rw [List.getElem?_set_self hl] at h2
        cases h2
        obtain ⟨c, o, e3, q', _⟩ := ORep.addr r
        cases e3
        rw [n] at q'; cases q'
      · rw [List.getElem?_eq_none (by simpa using hl)] at h2; cases h2
  · rw [List.getElem?_set_ne z] at h1 h2
    exact slot_ne (F' := F) (H' := H) kk1.env n j' e' b h1 h2
theorem pu_par {i j : Nat} {x y : Str} {a b : Expr} {k l : RK} {t u : DT} {px py pt : Pos} {kt k2 : Nat} {pt2 : Pos} (hc : X.calm = true) (hN : X.N.Nodup) (hi : X.N[i]? = some x) (hj : X.N[j]? = some y) (hij : i ≠ j) (hx : X.env.scope.names.lookup x = some .local) (hy : X.env.scope.names.lookup y = some .local)
    (ha : PuK k M W X a t) (hb : PuK l M W X b u) (hw : swappedStores [.Tuple [.Name x px, .Name y py] kt pt] (.Tuple [a, b] k2 pt2) X.env = pure (some [x, y])) (hs : starEach [a, b] X.env = (false, eval a X.env) :: starEach [b] X.env := by rfl) (hs2 : starEach [b] X.env = (false, eval b X.env) :: starEach [] X.env := by rfl)
    (hsw : swapsWithSole [.Tuple [.Name x px, .Name y py] kt pt] (.Tuple [a, b] k2 pt2) pos.line X.env = pure false := by rfl) :
    PuS M W X (.Assign [.Tuple [.Name x px, .Name y py] kt pt] (.Tuple [a, b] k2 pt2) pos) (dPar i j k l t u) :=
  PSimp (ps_par hc hN hi hj hij hx hy (pa_cons ha (pa_cons hb pa_nil hs2) hs) hw hsw) (par_imp hij)
end
end PL
set_option Elab.async false
set_option linter.all false
set_option maxRecDepth 100000
namespace PL
open PySem PySem.Spec PyProof.Rows L2

/-! ### dicts -/
def kyD : D → Option Key
  | .int i => some (.inl i)
  | .str s => some (.inr s)
  | _ => none
theorem rep_key {K : PySem.W.Frag} {mg : Str → Option Value} {M : Am} {F : Hp} {d : D} {k : Key} (r : Rep K mg M F d (kV k)) : kyD d = some k := by
  cases k with
  | inl i =>
    cases d <;> first
      | (have r : V.int i = _ := r; cases r; done)
      | (have r : V.int i = _ := r; cases r; rfl)
      | (obtain ⟨a, _, e, _⟩ := r; cases e; done)
      | (obtain ⟨a, _, _, e, _⟩ := r; cases e; done)
      | (obtain ⟨a, _, _, _, e, _⟩ := r; cases e; done)
      | (obtain ⟨a, e, _⟩ := r; cases e; done)
      | (obtain ⟨_, a, _, _, _, e, _⟩ := r; cases e; done)
  | inr i =>
    cases d <;> first
      | (have r : V.str i = _ := r; cases r; done)
      | (have r : V.str i = _ := r; cases r; rfl)
      | (obtain ⟨a, _, e, _⟩ := r; cases e; done)
      | (obtain ⟨a, _, _, e, _⟩ := r; cases e; done)
      | (obtain ⟨a, _, _, _, e, _⟩ := r; cases e; done)
      | (obtain ⟨a, e, _⟩ := r; cases e; done)
      | (obtain ⟨_, a, _, _, _, e, _⟩ := r; cases e; done)
theorem key_rep {K : PySem.W.Frag} {mg : Str → Option Value} {M : Am} {F : Hp} {d : D} {k : Key} {v : V} (h : kyD d = some k) (r : Rep K mg M F d v) : v = kV k := by
  cases d <;> first
    | (simp [kyD] at h; done)
    | (cases h; exact r)
def lookD (q : Key) : List D → List D → Option D
  | k :: ks, x :: xs => if kyD k = some q then some x else lookD q ks xs
  | _, _ => none
theorem look_val {K : PySem.W.Frag} {mg : Str → Option Value} {M : Am} {F : Hp} {q : Key} : ∀ {kvs : List (Key × V)} {ks xs : List D}, RepL K mg M F ks (kvs.map fun p => kV p.1) → RepL K mg M F xs (kvs.map (·.2)) →
    (∀ x, lookD q ks xs = some x → ∃ v, valV kvs q = some v ∧ Rep K mg M F x v) ∧ (lookD q ks xs = none → valV kvs q = none)
  | [], ks, xs, r1, r2 => by
    refine ⟨fun x h => ?_, fun _ => rfl⟩
    cases ks with
    | nil => simp [lookD] at h
    | cons k ks => obtain ⟨_, _, e, _⟩ := r1; cases e
  | p :: kvs, ks, xs, r1, r2 => by
    cases ks with
    | nil => simp [RepL] at r1
    | cons k ks =>
      cases xs with
      | nil => simp [RepL] at r2
      | cons x xs =>
        obtain ⟨a, as, e, ra, r1⟩ := r1
        simp only [List.map_cons, List.cons.injEq] at e
        obtain ⟨rfl, e⟩ := e
        obtain ⟨b, bs, e', rb, r2⟩ := r2
        simp only [List.map_cons, List.cons.injEq] at e'
        obtain ⟨rfl, e'⟩ := e'
        have hk := rep_key ra
        have ih := look_val (q := q) (kvs := kvs) (by rw [e]; exact r1) (by rw [e']; exact r2)
        unfold lookD
        by_cases z : p.1 = q
        · have hv : valV (p :: kvs) q = some p.2 := by simp [valV, z]
          rw [hk, z, if_pos rfl, hv]
          exact ⟨fun y h => by cases h; exact ⟨_, rfl, rb⟩, fun h => by cases h⟩
        · have hv : valV (p :: kvs) q = valV kvs q := by simp [valV, z]
          rw [hk, if_neg (by simpa using z), hv]
          exact ih
/-- what a tuple key finds -/
def lookT (q : NestedKey) : List D → List D → Option D
  | k :: ks, x :: xs => if nkey k = some q then some x else lookT q ks xs
  | _, _ => none
theorem nkeyL_cons {d : D} {ds : List D} {ns : List NestedKey} (h : nkeyL (d :: ds) = some ns) : ∃ n ms, ns = n :: ms ∧ nkey d = some n ∧ nkeyL ds = some ms := by
  simp only [nkeyL] at h
  obtain ⟨n, h1, h2⟩ := Option.bind_eq_some_iff.mp h
  obtain ⟨ms, h3, h4⟩ := Option.map_eq_some_iff.mp h2
  exact ⟨n, ms, h4.symm, h1, h3⟩
theorem lookT_val {K : PySem.W.Frag} {mg : Str → Option Value} {M : Am} {F : Hp} {q : NestedKey} : ∀ {es : List (NestedKey × Addr × Value)} {ks xs : List D} {vs : List V}, nkeyL ks = some (es.map (·.1)) → RepL K mg M F xs vs → Vals vs (es.map (·.2.2)) →
    (∀ x, lookT q ks xs = some x → ∃ v u, valueAt (pairsH es) q = some u ∧ L2.RelV v u ∧ Rep K mg M F x v) ∧ (lookT q ks xs = none → valueAt (pairsH es) q = none)
  | [], ks, xs, vs, h, r, hv => by
    refine ⟨fun x h' => ?_, fun _ => rfl⟩
    cases ks with
    | nil => simp [lookT] at h'
    | cons k ks => obtain ⟨_, _, e, _⟩ := nkeyL_cons h; cases e
  | p :: es, ks, xs, vs, h, r, hv => by
    cases ks with
    | nil => simp [nkeyL] at h
    | cons k ks =>
      obtain ⟨n, ms, e, h1, h2⟩ := nkeyL_cons h
      simp only [List.map_cons, List.cons.injEq] at e
      obtain ⟨rfl, e⟩ := e
      cases hv with
      | cons r0 hv =>
        cases xs with
        | nil => simp [RepL] at r
        | cons x xs =>
          obtain ⟨b, bs, e', rb, r2⟩ := r
          simp only [List.cons.injEq] at e'
          obtain ⟨rfl, rfl⟩ := e'
          have ih := lookT_val (q := q) (es := es) (by rw [h2, e]) r2 hv
          unfold lookT
          by_cases z : p.1 = q
          · have hv' : valueAt (pairsH (p :: es)) q = some p.2.2 := by simp [valueAt, pairsH, z]
            rw [h1, z, if_pos rfl, hv']
            exact ⟨fun y h => by cases h; exact ⟨_, _, rfl, r0, rb⟩, fun h => by cases h⟩
          · have hv' : valueAt (pairsH (p :: es)) q = valueAt (pairsH es) q := by simp [valueAt, pairsH, z]
            rw [h1, if_neg (by simpa using z), hv']
            exact ih
section
variable {M : Am} {W : WX} {X : Cx} {pos : Pos}
mutual
/-- a key as the heap has it -/
theorem rep_nested {pins : List (Addr × Obj)} {σ : L2.St} {H : Hp} {s : Shared} (I : L2.Inv X pins σ H s) {F : Hp} (su : Sub F H) : ∀ (d : D) {k : NestedKey} {v : V} {u : Value}, nkey d = some k → Rep X.K X.mg M F d v → L2.RelV v u → NestedIs s.heap k u
  | .non, k, v, u, h, r, rv => by
    cases h
    rw [show v = V.non from r] at rv
    rw [show u = .none from rv]
    exact .none
  | .bl b, k, v, u, h, r, rv => by
    cases h
    rw [show v = V.bl b from r] at rv
    rw [show u = .bool b from rv]
    exact .bool rfl
  | .int i, k, v, u, h, r, rv => by
    cases h
    rw [show v = V.int i from r] at rv
    obtain ⟨t, rfl⟩ := rv
    exact .int i t
  | .str i, k, v, u, h, r, rv => by
    cases h
    rw [show v = V.str i from r] at rv
    obtain ⟨t, rfl⟩ := rv
    exact .text i t
  | .tup ds, k, v, u, h, r, rv => by
    simp only [nkey] at h
    obtain ⟨ks, h1, rfl⟩ := Option.map_eq_some_iff.mp h
    obtain ⟨a, o, vs, rfl, q, ⟨arr, rfl⟩, rl⟩ := r
    rw [show u = .ref a from rv]
    obtain ⟨g1, l, us, hv, o', g2, c2, n, d2⟩ := I.hok a _ (su _ _ q)
    rw [g1] at g2; cases g2
    cases d2
    exact .tup g1 rfl rfl (rep_nestedL I su ds h1 rl (by simpa using hv))
  | .lst _, _, _, _, h, _, _ => by simp [nkey] at h
  | .dct _ _, _, _, _, h, _, _ => by simp [nkey] at h
  | .tdc _ _, _, _, _, h, _, _ => by simp [nkey] at h
  | .obj _ _ _, _, _, _, h, _, _ => by simp [nkey] at h
  | .glo _, _, _, _, h, _, _ => by simp [nkey] at h
  | .ty _, _, _, _, h, _, _ => by simp [nkey] at h
  | .hand, _, _, _, h, _, _ => by simp [nkey] at h
theorem rep_nestedL {pins : List (Addr × Obj)} {σ : L2.St} {H : Hp} {s : Shared} (I : L2.Inv X pins σ H s) {F : Hp} (su : Sub F H) : ∀ (ds : List D) {ks : List NestedKey} {vs : List V} {us : List Value}, nkeyL ds = some ks → RepL X.K X.mg M F ds vs → Vals vs us → NestedAll s.heap ks us
  | [], ks, vs, us, h, r, rv => by
    cases h
    rw [show vs = [] from r] at rv
    cases rv
    exact .nil
  | d :: ds, ks, vs, us, h, r, rv => by
    obtain ⟨n, ms, rfl, h1, h2⟩ := nkeyL_cons h
    obtain ⟨w, ws, rfl, r1, r2⟩ := r
    cases rv with
    | cons a b => exact .cons (rep_nested I su d h1 r1 a) (rep_nestedL I su ds h2 r2 b)
end
/-- a dict with tuple keys, in the heap -/
theorem tdc_keyed (hM : M.hash = NestedKey.hash X.w) {pins : List (Addr × Obj)} {σ : L2.St} {H : Hp} {s : Shared} (I : L2.Inv X pins σ H s) {F : Hp} (su : Sub F H) {ks xs : List D} {v : V} (r : Rep X.K X.mg M F (.tdc ks xs) v) :
    ∃ a es vs, v = .ref a ∧ (a == sysModules) = false ∧ Heap.DictKeyed (nestedKind X.prog X.w) s.heap a (pairsH es) ∧ es.length ≤ sizeLine ∧ nkeyL ks = some (es.map (·.1)) ∧ RepL X.K X.mg M F xs vs ∧ Vals vs (es.map (·.2.2)) := by
  obtain ⟨_, a, o, es, vs, rfl, z, q, ⟨ex, arr, ep, hd, he, hn, h8⟩, hl, hk, r1, r2, hv⟩ := r
  have g1 : s.heap.get? a = some o := (I.hok a _ (su _ _ q)).1
  refine ⟨a, es, vs, rfl, z, ⟨es, ⟨o, arr, ep, g1, ex, hd, ?_, fun x hx => ⟨?_, h8 x hx⟩, hn⟩, rfl⟩, hl, hk, r2, hv⟩
  · rw [he]
    apply List.map_congr_left
    intro x _
    unfold entryOfKey
    rw [hM]
    rfl
  · -- each key reads
    have key : ∀ (es : List (NestedKey × Addr × Value)) (ks : List D), nkeyL ks = some (es.map (·.1)) → RepL X.K X.mg M F ks (es.map fun e => V.ref e.2.1) → ∀ x ∈ es, NestedIs s.heap x.1 (.ref x.2.1) := by
      intro es
      induction es with
      | nil => intro ks _ _ x hx; simp at hx
      | cons p es ih =>
        intro ks h r x hx
        cases ks with
        | nil => simp [nkeyL] at h
        | cons k ks =>
          obtain ⟨n, ms, e, h1, h2⟩ := nkeyL_cons h
          simp only [List.map_cons, List.cons.injEq] at e
          obtain ⟨rfl, e⟩ := e
          obtain ⟨w, ws, e', ra, rb⟩ := r
          simp only [List.map_cons, List.cons.injEq] at e'
          obtain ⟨rfl, rfl⟩ := e'
          rcases List.mem_cons.mp hx with rfl | hx
          · exact rep_nested I su k h1 ra rfl
          · exact ih ks (by rw [h2, e]) rb x hx
    exact key es ks hk r1 x hx
theorem sub_tail_eq {value slice : Expr} {o i : Value} {x : Str} {p : Pos} : PyProof.Rows.subscriptTail value slice o i = (PyProof.Rows.subscriptTail (.Name x p) slice o i >>= fun r => letTemporaryGo value o r >>= fun _ => pure r) := by
  unfold PyProof.Rows.subscriptTail
  simp only [bind_assoc, pure_bind]
  have : ∀ r, letTemporaryGo (.Name x p) o r = pure () := fun r => rfl
  simp [this]
theorem sub_tail {prog : Program} {w : World} {A : Around} {E : Value → Shared → Prop} {s : Shared} {value slice : Expr} {o i : Value} {T id : String} {Q : Value → Shared → Prop} (ty : s.TypeIs o T) (lk : typeLookup (.type T) "__getitem__" = pure (some (.builtin id))) (h : wpAny (model prog w) A (getItem o i) Q E s)
    (hs : subscripted slice false o i = operate [o, i] (getItem o i)) : wpAny (model prog w) A (PyProof.Rows.subscriptTail value slice o i) Q E s := by
  rw [sub_tail_eq (x := "x") (p := ⟨0, 0, 0, 0⟩)]
  exact wpAny_bind (thn (PyProof.Rows.subscriptTail_builtin ty lk h hs (fun _ => rfl)) fun v s' q => wpAny_bind (wpAny_letTemporaryGo (wpAny_pure q)))
/-- d[k], l[i] -/
def itD (x y : D) : Ret := match x with
  | .dct ks xs => (match kyD y with | some q => (match lookD q ks xs with | some z => .ok z | none => .no) | none => .no)
  | .tdc ks xs => (match y with
    | .tup ds => (match nkey (.tup ds) with | some q => (match lookT q ks xs with | some z => .cond (q.depth ≤ 8) z | none => .no) | none => .no)
    | _ => .no)
  | x => ixD x y
theorem xd_it (hu : X.A.units + 65 < cLine) (hM : M.hash = NestedKey.hash X.w) : IxR X (rD M X itD) := by
  intro eb ei pins s σ H x y v u Q I rx ry ⟨F, dx, dy, dz, g, r1, r2, e, q⟩ hsub
  unfold itD at e
  split at e
  · rename_i ks xs
    split at e
    · rename_i k hk
      split at e
      · rename_i z hz
        have e : z = dz := e
        subst e
        obtain ⟨a, kvs, rfl, nf, hH, rk, rx'⟩ := r1
        cases rx
        obtain ⟨w, hw, rw'⟩ := (look_val rk rx').1 z hz
        have hy : y = kV k := by
          cases dy <;> first
            | (simp [kyD] at hk; done)
            | (cases hk; exact r2)
        have hd : DGet H a y (some w) := .inl ⟨kvs, k, hH, hy, hw.symm⟩
        have ty : s.TypeIs (.ref a) "dict" := by
          rcases hH with h | ⟨o, h⟩
          · obtain ⟨_, _, vs, _, hd⟩ := I.hok a _ h
            exact hd.typeIs
          · obtain ⟨_, _, _, vs, _, hd⟩ := I.hok a _ h
            exact hd.typeIs
        exact sub_tail ty PySem.F.slot_dict_getitem.lookup (d_getItem (by omega) I hd ry fun w' s' I' rw2 => ⟨w, H, I', rw2, q w H F g rw'⟩) hsub
      · exact e.elim
    · exact e.elim
  · rename_i ks xs
    split at e
    · rename_i ds
      split at e
      · rename_i k hk
        split at e
        · rename_i z hz
          obtain ⟨h8, rfl⟩ := e
          obtain ⟨a, es, vs, rfl, hs, hd, hl, hk', rr, hv⟩ := tdc_keyed hM I g.inn r1
          cases rx
          obtain ⟨w, u', h1, h2, h3⟩ := (lookT_val hk' rr hv).1 z hz
          have r2' : Rep X.K X.mg M F (.tup ds) y := r2
          obtain ⟨b, o, vs', rfl, _⟩ := r2
          have e' : u = .ref b := ry
          subst e'
          have hn := rep_nested I g.inn (.tup ds) hk r2' rfl
          have ty : s.TypeIs (.ref a) "dict" := hd.typeIs
          refine sub_tail ty PySem.F.slot_dict_getitem.lookup (getItem_keyed (knd := nestedKind X.prog X.w) ?_ ⟨hn, h8⟩ hd h1 ⟨w, H, I.tok _, h2, q w H F g h3⟩) hsub
          show X.A.units + 1 + 8 < cLine
          omega
        · exact e.elim
      · exact e.elim
    · exact e.elim
  · exact xd_ix eb ei pins s σ H x y v u Q I rx ry ⟨F, _, dy, dz, g, r1, r2, e, q⟩ hsub

theorem dct_key {K : PySem.W.Frag} {mg : Str → Option Value} {F H : Hp} {d : D} {k : Key} {y : V} (h : kyD d = some k) (r : ARep K mg M F H d y) : y = kV k := by
  cases d <;> first
    | (simp [kyD] at h; done)
    | (cases h; exact r)
theorem dct_get {K : PySem.W.Frag} {mg : Str → Option Value} {F H : Hp} {ks xs : List D} {x : V} {dy : D} {k : Key} {y : V} (r : ARep K mg M F H (.dct ks xs) x) (h : kyD dy = some k) (ry : ARep K mg M F H dy y) : ∃ a o, x = .ref a ∧ DGet H a y o ∧ (∀ z, lookD k ks xs = some z → ∃ w, o = some w ∧ Rep K mg M F z w) ∧ (lookD k ks xs = none → o = none) := by
  obtain ⟨a, kvs, rfl, nf, hH, rk, rx⟩ := r
  refine ⟨a, valV kvs k, rfl, .inl ⟨kvs, k, hH, dct_key h ry, rfl⟩, fun z hz => ?_, fun hz => (look_val rk rx).2 hz⟩
  obtain ⟨w, hw, rw⟩ := (look_val rk rx).1 z hz
  exact ⟨w, hw, rw⟩
/-- k in d, x in l -/
def inD2 (x y : D) : Ret := match y with
  | .dct ks xs => (match kyD x with | some q => .ok (.bl (lookD q ks xs).isSome) | none => .no)
  | .tdc ks xs => (match x with
    | .tup ds => (match nkey (.tup ds) with | some q => .cond (q.depth ≤ 8) (.bl (lookT q ks xs).isSome) | none => .no)
    | _ => .no)
  | y => inD x y
def notInD2 (x y : D) : Ret := match y with
  | .dct ks xs => (match kyD x with | some q => .ok (.bl (!(lookD q ks xs).isSome)) | none => .no)
  | .tdc ks xs => (match x with
    | .tup ds => (match nkey (.tup ds) with | some q => .cond (q.depth ≤ 8) (.bl (!(lookT q ks xs).isSome)) | none => .no)
    | _ => .no)
  | y => notInD x y
theorem look_some {q : Key} {ks xs : List D} {o : Option V} {K : PySem.W.Frag} {mg : Str → Option Value} {F : Hp} (h1 : ∀ z, lookD q ks xs = some z → ∃ w, o = some w ∧ Rep K mg M F z w) (h2 : lookD q ks xs = none → o = none) : o.isSome = (lookD q ks xs).isSome := by
  cases h : lookD q ks xs with
  | none => rw [h2 h]; rfl
  | some z =>
    obtain ⟨w, e, _⟩ := h1 z h
    rw [e]; rfl
theorem lookT_some {q : NestedKey} {es : List (NestedKey × Addr × Value)} {ks xs : List D} {vs : List V} {K : PySem.W.Frag} {mg : Str → Option Value} {F : Hp} (h : nkeyL ks = some (es.map (·.1))) (r : RepL K mg M F xs vs) (hv : Vals vs (es.map (·.2.2))) : (valueAt (pairsH es) q).isSome = (lookT q ks xs).isSome := by
  have := lookT_val (q := q) h r hv
  cases e : lookT q ks xs with
  | none => rw [this.2 e]; rfl
  | some z =>
    obtain ⟨w, u, e1, _⟩ := this.1 z e
    rw [e1]
    rfl
theorem od_in2 (hu : X.A.units + 65 < cLine) (hM : M.hash = NestedKey.hash X.w) : OpR X (compareOp .In) (rD M X inD2) := by
  intro pins s σ H x y v u Q I rx ry ⟨F, dx, dy, dz, g, r1, r2, e, q⟩
  unfold inD2 at e
  split at e
  · rename_i ks xs
    split at e
    · rename_i k hk
      have e : D.bl _ = dz := e
      subst e
      obtain ⟨a, o, rfl, hd, h1, h2⟩ := dct_get r2 hk r1
      cases ry
      refine d_in (by omega) I hd rx fun s' I' => ⟨.bl _, H, I', rfl, ?_⟩
      rw [look_some h1 h2]
      exact q _ H F g rfl
    · exact e.elim
  · rename_i ks xs
    split at e
    · rename_i ds
      split at e
      · rename_i k hk
        obtain ⟨h8, rfl⟩ := e
        obtain ⟨a, es, vs, rfl, hs, hd, hl, hk', rr, hv⟩ := tdc_keyed hM I g.inn r2
        cases ry
        have r1' : Rep X.K X.mg M F (.tup ds) x := r1
        obtain ⟨b, o, vs', rfl, _⟩ := r1
        have e' : v = .ref b := rx
        subst e'
        have hn := rep_nested I g.inn (.tup ds) hk r1' rfl
        refine in_keyed (knd := nestedKind X.prog X.w) (by show X.A.units + 1 + 8 < cLine; omega) ⟨hn, h8⟩ hs hd ⟨.bl _, H, I.tok _, rfl, ?_⟩
        rw [lookT_some hk' rr hv]
        exact q _ H F g rfl
      · exact e.elim
    · exact e.elim
  · exact od_in hu pins s σ H x y v u Q I rx ry ⟨F, dx, _, dz, g, r1, r2, e, q⟩
theorem od_notIn2 (hu : X.A.units + 65 < cLine) (hM : M.hash = NestedKey.hash X.w) : OpR X (compareOp .NotIn) (rD M X notInD2) := by
  intro pins s σ H x y v u Q I rx ry ⟨F, dx, dy, dz, g, r1, r2, e, q⟩
  unfold notInD2 at e
  split at e
  · rename_i ks xs
    split at e
    · rename_i k hk
      have e : D.bl _ = dz := e
      subst e
      obtain ⟨a, o, rfl, hd, h1, h2⟩ := dct_get r2 hk r1
      cases ry
      refine d_notIn (by omega) I hd rx fun s' I' => ⟨.bl _, H, I', rfl, ?_⟩
      rw [look_some h1 h2]
      exact q _ H F g rfl
    · exact e.elim
  · rename_i ks xs
    split at e
    · rename_i ds
      split at e
      · rename_i k hk
        obtain ⟨h8, rfl⟩ := e
        obtain ⟨a, es, vs, rfl, hs, hd, hl, hk', rr, hv⟩ := tdc_keyed hM I g.inn r2
        cases ry
        have r1' : Rep X.K X.mg M F (.tup ds) x := r1
        obtain ⟨b, o, vs', rfl, _⟩ := r1
        have e' : v = .ref b := rx
        subst e'
        have hn := rep_nested I g.inn (.tup ds) hk r1' rfl
        refine notIn_keyed (knd := nestedKind X.prog X.w) (by show X.A.units + 1 + 8 < cLine; omega) ⟨hn, h8⟩ hs hd ⟨.bl _, H, I.tok _, rfl, ?_⟩
        rw [lookT_some hk' rr hv]
        exact q _ H F g rfl
      · exact e.elim
    · exact e.elim
  · exact od_notIn hu pins s σ H x y v u Q I rx ry ⟨F, dx, _, dz, g, r1, r2, e, q⟩
/-- len, of dicts too -/
def lenD2 (ds : List D) : Ret := match ds with
  | [.dct ks xs] => .ok (.int (ks.length : Nat))
  | ds => lenD ds
theorem cd_len2 : CallR X (.builtin "len") (rDL M X lenD2) := by
  intro pins s σ H xs us Q I r ⟨F, ds, dz, g, rl, e, q⟩
  unfold lenD2 at e
  split at e
  · rename_i ks zs
    have e : D.int _ = dz := e
    subst e
    obtain ⟨x, rfl, r1⟩ := rl.one
    obtain ⟨u, rfl, ru⟩ := Vals.one r
    obtain ⟨a, kvs, rfl, nf, hH, rk, rx⟩ := r1
    cases ru
    refine d_len I hH fun t s' I' => ⟨.int _, H, I', ⟨t, rfl⟩, ?_⟩
    have := rk.length
    rw [List.length_map] at this
    rw [this]
    exact q _ H F g rfl
  · exact cd_len pins s σ H xs us Q I r ⟨F, _, dz, g, rl, e, q⟩
/-- d.get(k), d.get(k, x) -/
def dGet1 (td tk : DT) : DT := fun ρ Q E => td ρ (fun x => match x with | .dct ks xs => tk ρ (fun k => match kyD k with | some q => Q ((lookD q ks xs).getD .non) | none => False) E | _ => False) E
def dGet2 (td tk tx : DT) : DT := fun ρ Q E => td ρ (fun x => match x with | .dct ks xs => tk ρ (fun k => match kyD k with | some q => tx ρ (fun z => Q ((lookD q ks xs).getD z)) E | none => False) E | _ => False) E
theorem pu_get1 {o e : Expr} {apos cpos : Pos} {td tk : DT} (hu : X.A.units + 65 < cLine) (ho : PuB M W X o td) (he : PuE M W X e tk) (m : M1 X o "get" apos e cpos) : PuE M W X (.Call (.Attribute o "get" apos) [e] [] cpos) (dGet1 td tk) :=
  PEimp (pe_dget1 (by omega) ho he m) fun σ H QV ⟨H0, F, ρ, Q, E, k, ht, q, e⟩ => by
    refine ⟨H0, F, ρ, _, E, k, ht, fun v H1 F1 d g r hq => ?_, e⟩
    split at hq
    · rename_i ks xs
      obtain ⟨a, kvs, rfl, nf, hH, rk, rx⟩ := r
      refine ⟨a, rfl, .inl ⟨kvs, hH⟩, H0, F1, ρ, _, E, k.grow g, hq, fun y H2 F2 dy g2 r2 h2 => ?_, fun x c dx H' F' g' => e x c dx H' F' (g.trans g')⟩
      split at h2
      · rename_i kk hk
        obtain ⟨a', o, e', hd, h3, h4⟩ := dct_get (ARep.grow g2 (d := .dct ks xs) ⟨a, kvs, rfl, nf, hH, rk, rx⟩) hk (r2.arep g2.inn g2.off)
        cases e'
        refine ⟨o, hd, ?_⟩
        cases hl : lookD kk ks xs with
        | none =>
          rw [h4 hl]
          rw [hl] at h2
          exact q _ H2 F2 .non (g.trans g2) rfl h2
        | some z =>
          obtain ⟨w, e1, rw⟩ := h3 z hl
          rw [e1]
          rw [hl] at h2
          exact q w H2 F2 z (g.trans g2) rw h2
      · exact h2.elim
    · exact hq.elim
theorem pu_get2 {o e f : Expr} {apos cpos : Pos} {td tk tx : DT} (hu : X.A.units + 65 < cLine) (ho : PuB M W X o td) (he : PuE M W X e tk) (hf : PuE M W X f tx) (m : M2 X o "get" apos e f cpos) : PuE M W X (.Call (.Attribute o "get" apos) [e, f] [] cpos) (dGet2 td tk tx) :=
  PEimp (pe_dget2 (by omega) ho he hf m) fun σ H QV ⟨H0, F, ρ, Q, E, k, ht, q, e⟩ => by
    refine ⟨H0, F, ρ, _, E, k, ht, fun v H1 F1 d g r hq => ?_, e⟩
    split at hq
    · rename_i ks xs
      obtain ⟨a, kvs, rfl, nf, hH, rk, rx⟩ := r
      refine ⟨a, rfl, .inl ⟨kvs, hH⟩, H0, F1, ρ, _, E, k.grow g, hq, fun y H2 F2 dy g2 r2 h2 => ?_, fun x c dx H' F' g' => e x c dx H' F' (g.trans g')⟩
      split at h2
      · rename_i kk hk
        refine ⟨H0, F2, ρ, _, E, k.grow (g.trans g2), h2, fun z H3 F3 dz g3 r3 h3' => ?_, fun x c dx H' F' g' => e x c dx H' F' ((g.trans g2).trans g')⟩
        obtain ⟨a', o, e', hd, h3, h4⟩ := dct_get (ARep.grow (g2.trans g3) (d := .dct ks xs) ⟨a, kvs, rfl, nf, hH, rk, rx⟩) hk ((r2.arep g2.inn g2.off).grow g3)
        cases e'
        refine ⟨o, hd, ?_⟩
        have g13 := g.trans (g2.trans g3)
        cases hl : lookD kk ks xs with
        | none =>
          rw [h4 hl]
          rw [hl] at h3'
          exact q z H3 F3 dz g13 r3 h3'
        | some z' =>
          obtain ⟨w, e1, rw⟩ := h3 z' hl
          rw [e1]
          rw [hl] at h3'
          exact q w H3 F3 z' g13 rw h3'
      · exact h2.elim
    · exact hq.elim
/-- {} -/
theorem puo_dnew : PuO M W X (.Dict [] [] pos) (dC (.dct [] [])) := PEimp pe_dnewK fun σ H QV ⟨H0, F, ρ, Q, E, k, ht, q, e⟩ p np =>
  q p _ F (.dct [] []) (k.refl.laidH _ np) np (k.refl.noF np) ⟨p, [], rfl, upd_same, rfl, rfl⟩ ht
/-- what d[k] = v makes -/
def putX (q : Key) (v : D) : List D → List D → List D
  | k :: ks, x :: xs => (if kyD k = some q then v else x) :: putX q v ks xs
  | _, _ => []
def hasK (q : Key) (ks : List D) : Bool := ks.any fun k => decide (kyD k = some q)
theorem put_rep {K : PySem.W.Frag} {mg : Str → Option Value} {F : Hp} {q : Key} {dk dv : D} {v : V} (hk : kyD dk = some q) (rk : Rep K mg M F dk (kV q)) (rv : Rep K mg M F dv v) {kvs : List (Key × V)} {ks xs : List D} (r1 : RepL K mg M F ks (kvs.map fun p => kV p.1)) (r2 : RepL K mg M F xs (kvs.map (·.2))) :
    RepL K mg M F (if hasK q ks = true then ks else ks ++ [dk]) ((putK kvs q v).map fun p => kV p.1) ∧ RepL K mg M F (if hasK q ks = true then putX q dv ks xs else xs ++ [dv]) ((putK kvs q v).map (·.2)) := by
  have hany : ∀ (kvs : List (Key × V)) (ks : List D), RepL K mg M F ks (kvs.map fun p => kV p.1) → (kvs.any fun kv => decide (kv.1 = q)) = hasK q ks := by
    intro kvs
    induction kvs with
    | nil => intro ks r; cases ks with
      | nil => rfl
      | cons k ks => obtain ⟨_, _, e, _⟩ := r; cases e
    | cons p kvs ih =>
      intro ks r
      cases ks with
      | nil => simp [RepL] at r
      | cons k ks =>
        obtain ⟨a, as, e, ra, r⟩ := r
        simp only [List.map_cons, List.cons.injEq] at e
        obtain ⟨rfl, rfl⟩ := e
        have := rep_key ra
        simp only [List.any_cons, hasK, this]
        rw [ih ks r]
        unfold hasK
        congr 1
        by_cases z : p.1 = q <;> simp [z]
  rw [← hany kvs ks r1]
  unfold putK
  split
  · rename_i h
    refine ⟨?_, ?_⟩
    · rw [List.map_map]
      have : (fun p : Key × V => kV p.1) ∘ (fun kv => if kv.1 = q then (kv.1, v) else kv) = fun p => kV p.1 := by
        funext p
        simp only [Function.comp]
        split <;> rfl
      rw [this]
      exact r1
    · clear h
      induction kvs generalizing ks xs with
      | nil =>
        cases ks with
        | nil => simp [putX, RepL]
        | cons k ks => obtain ⟨_, _, e, _⟩ := r1; cases e
      | cons p kvs ih =>
        cases ks with
        | nil => simp [RepL] at r1
        | cons k ks =>
          cases xs with
          | nil => simp [RepL] at r2
          | cons x xs =>
            obtain ⟨a, as, e, ra, r1⟩ := r1
            simp only [List.map_cons, List.cons.injEq] at e
            obtain ⟨rfl, rfl⟩ := e
            obtain ⟨b, bs, e', rb, r2⟩ := r2
            simp only [List.map_cons, List.cons.injEq] at e'
            obtain ⟨rfl, rfl⟩ := e'
            have hk' := rep_key ra
            unfold putX
            rw [List.map_cons, List.map_cons]
            refine .cons ?_ (ih r1 r2)
            rw [hk']
            by_cases z : p.1 = q
            · rw [if_pos z, if_pos (by rw [z])]; exact rv
            · rw [if_neg z, if_neg (by simpa using z)]; exact rb
  · refine ⟨?_, ?_⟩
    · rw [List.map_append]
      exact r1.snoc rk
    · rw [List.map_append]
      exact r2.snoc rv
/-- d[k] = v, d one's own -/
def dPut (i : Nat) (tk tv : DT) : DS := fun N ρ => match ρ[i]? with
  | some (some (.own (.dct ks xs))) => tv ρ (fun v => tk ρ (fun k => match kyD k with | some q => ks.length < 16777216 ∧ N.nx (ρ.set i (some (.own (.dct (if hasK q ks = true then ks else ks ++ [k]) (if hasK q ks = true then putX q v ks xs else xs ++ [v]))))) | none => False) N.ex) N.ex
  | _ => False
theorem pu_put {i : Nat} {o ix value : Expr} {pos' : Pos} {tk tv : DT} (hu : X.A.units + 65 < cLine) (ho : PE X o (tVar i)) (hi : PuE M W X ix tk) (hv : PuE M W X value tv) (hs : swapsWith value (some (.Subscript o ix pos')) pos.line X.env = pure false := by rfl) : PuS M W X (.Assign [.Subscript o ix pos'] value pos) (dPut i tk tv) :=
  PSimp (ps_dput (by omega) ho hi hv hs) fun D σ H ⟨F0, H0, F, ρ, N, k, ht, q1, _, _, q4, q5⟩ => by
    unfold dPut at ht
    split at ht
    · rename_i ks xs e1
      obtain ⟨w, e2, rw⟩ := k.env.slot i _ e1
      obtain ⟨a, kvs, rfl, hH, rk, rx⟩ := rw
      refine ⟨H0, F, ρ, _, N.ex, k.env, ht, fun v H1 F1 d g r h1 => ?_, fun x c dx H' F' g => q5 x c dx σ H' F' (k.gr.trans g)⟩
      refine ⟨.ref a, e2, H0, F1, ρ, _, N.ex, k.env.grow g, h1, fun y H2 F2 dk g2 r2 h2 => ?_, fun x c dx H' F' g' => q5 x c dx σ H' F' (k.gr.trans (g.trans g'))⟩
      split at h2
      · rename_i qq hq
        obtain ⟨hz, h2⟩ := h2
        have g12 := g.trans g2
        obtain ⟨w', e2', rw'⟩ := (k.env.grow g12).slot i _ e1
        rw [e2] at e2'; cases e2'
        obtain ⟨a', kvs', e', hH', rk', rx'⟩ := rw'
        cases e'
        have hy := key_rep hq r2
        subst hy
        obtain ⟨p1, p2⟩ := put_rep (v := v) hq r2 (Rep.mono g2.sub _ r) rk' rx'
        refine ⟨a, _, rfl, .inl ⟨kvs', qq, hH', rfl, ?_, rfl⟩, ?_⟩
        · have := rk'.length
          rw [List.length_map] at this
          rw [this, sizeLine_eq]
          exact hz
        · exact q1 σ _ F2 _ g12.sub (k.upd (d' := .dct _ _) g12 e1 e2 ⟨a, _, rfl, upd_same, p1, p2⟩) h2
      · exact h2.elim
    · exact ht.elim
end
end PL
set_option Elab.async false
set_option linter.all false
set_option maxRecDepth 100000
namespace PL
open PySem PySem.Spec PyProof.Rows L2

/-! ### dict(pairs) with tuples as keys -/
def pairsOf : List D → Option (List (D × D))
  | [] => some []
  | .tup [k, v] :: ds => (pairsOf ds).map ((k, v) :: ·)
  | _ => none
def isTup : D → Bool
  | .tup _ => true
  | _ => false
def hasT (q : NestedKey) (ks : List D) : Bool := ks.any fun k => decide (nkey k = some q)
def putT (q : NestedKey) (v : D) : List D → List D → List D
  | k :: ks, x :: xs => (if nkey k = some q then v else x) :: putT q v ks xs
  | _, _ => []
def mrgT : List (D × D) → List D → List D → D
  | [], ks, xs => .tdc ks xs
  | p :: ps, ks, xs => match nkey p.1 with
    | some q => if hasT q ks = true then mrgT ps ks (putT q p.2 ks xs) else mrgT ps (ks ++ [p.1]) (xs ++ [p.2])
    | none => .non
def okKey (d : D) : Bool := isTup d && (match nkey d with | some q => decide (q.depth ≤ 8) | none => false)
def dictTD (ds : List D) : Ret := match ds with
  | [.lst xs] => (match pairsOf xs with | some ps => .cond ((ps.all fun p => okKey p.1) = true) (mrgT ps [] []) | none => .no)
  | _ => .no
section
variable {M : Am} {W : WX} {X : Cx} {pos : Pos}
/-- what lies at a pair's place -/
structure PairIs (M : Am) (X : Cx) (F : Hp) (s : Shared) (p : D × D) (t : Addr) (e : NestedKey × Addr × Value) (w : V) : Prop where
  at_ : s.heap.get? t = some { cls := .type "tuple", data := .seq #[.ref e.2.1, e.2.2] }
  key : nkey p.1 = some e.1
  few : e.1.depth ≤ 8
  is : NestedIs s.heap e.1 (.ref e.2.1)
  rk : Rep X.K X.mg M F p.1 (.ref e.2.1)
  rv : Rep X.K X.mg M F p.2 w
  val : L2.RelV w e.2.2
theorem pairs_are {pins : List (Addr × Obj)} {σ : L2.St} {H F : Hp} {s : Shared} (I : L2.Inv X pins σ H s) (su : Sub F H) : ∀ {ds : List D} {ps : List (D × D)} {vs : List V} {us : List Value}, pairsOf ds = some ps → (ps.all fun p => okKey p.1) = true → RepL X.K X.mg M F ds vs → Vals vs us →
    ∃ rows : List ((D × D) × Addr × (NestedKey × Addr × Value) × V), rows.map (·.1) = ps ∧ us = rows.map (fun r => Value.ref r.2.1) ∧ ∀ r ∈ rows, PairIs M X F s r.1 r.2.1 r.2.2.1 r.2.2.2
  | [], ps, vs, us, h, _, r, hv => by
    cases h
    rw [show vs = [] from r] at hv
    cases hv
    exact ⟨[], rfl, rfl, fun r hr => by simp at hr⟩
  | d :: ds, ps, vs, us, h, hk, r, hv => by
    cases d <;> first
      | (simp [pairsOf] at h; done)
      | skip
    case tup zs =>
    match zs, h with
    | [k, v], h =>
      simp only [pairsOf] at h
      obtain ⟨ps', h1, rfl⟩ := Option.map_eq_some_iff.mp h
      simp only [List.all_cons, Bool.and_eq_true] at hk
      obtain ⟨hk1, hk2⟩ := hk
      obtain ⟨x, xs, rfl, r1, r2⟩ := r
      cases hv with
      | cons a b =>
        rename_i u0 us0
        obtain ⟨rows, e1, e2, e3⟩ := pairs_are I su h1 hk2 r2 b
        obtain ⟨t, o, ws, rfl, q, ⟨arr, rfl⟩, rl⟩ := r1
        obtain ⟨wk, wv, rfl, rk, rv⟩ := rl.two
        obtain ⟨g1, l, us', hv', o', g2, c2, n, d2⟩ := I.hok t _ (su _ _ q)
        rw [g1] at g2; cases g2
        cases d2
        unfold okKey at hk1
        rw [Bool.and_eq_true] at hk1
        obtain ⟨ht, hd⟩ := hk1
        obtain ⟨ys, rfl⟩ : ∃ ys, k = .tup ys := by
          cases k <;> first
            | (simp [isTup] at ht; done)
            | exact ⟨_, rfl⟩
        split at hd
        · rename_i nk hn
          have rk' := rk
          obtain ⟨b', o', vs', rfl, _⟩ := rk
          cases hv' with
          | cons a1 hv' =>
            cases hv' with
            | cons a2 hv' =>
              cases hv'
              rename_i uk uv
              have e : uk = .ref b' := a1
              subst e
              refine ⟨((.tup ys, v), t, (nk, b', uv), wv) :: rows, by simp [e1], ?_, fun r hr => ?_⟩
              · have e : u0 = .ref t := a
                rw [List.map_cons, ← e2, e]
              · rcases List.mem_cons.mp hr with rfl | hr
                · exact ⟨g1, hn, by simpa using hd, rep_nested I su (.tup ys) hn rk' rfl, rk', rv, a2⟩
                · exact e3 r hr
        · cases hd
/-- the merged entries and the merged data -/
theorem mrg_rep {F : Hp} : ∀ {rows : List ((D × D) × Addr × (NestedKey × Addr × Value) × V)} {s : Shared}, (∀ r ∈ rows, PairIs M X F s r.1 r.2.1 r.2.2.1 r.2.2.2) → ∀ {acc : List (NestedKey × Addr × Value)} {ks xs : List D} {vs : List V},
    nkeyL ks = some (acc.map (·.1)) → (∀ x ∈ acc, x.1.depth ≤ 8) → RepL X.K X.mg M F ks (acc.map fun e => V.ref e.2.1) → RepL X.K X.mg M F xs vs → Vals vs (acc.map (·.2.2)) →
    ∃ ks' xs' vs', mrgT (rows.map (·.1)) ks xs = .tdc ks' xs' ∧ nkeyL ks' = some ((storedAllH acc (rows.map (·.2.2.1))).map (·.1)) ∧ (∀ x ∈ storedAllH acc (rows.map (·.2.2.1)), x.1.depth ≤ 8) ∧
      RepL X.K X.mg M F ks' ((storedAllH acc (rows.map (·.2.2.1))).map fun e => V.ref e.2.1) ∧ RepL X.K X.mg M F xs' vs' ∧ Vals vs' ((storedAllH acc (rows.map (·.2.2.1))).map (·.2.2)) := by
  intro rows
  induction rows with
  | nil => intro s _ acc ks xs vs h1 h2 h3 h4 h5; exact ⟨ks, xs, vs, rfl, h1, h2, h3, h4, h5⟩
  | cons r rows ih =>
    intro s hr acc ks xs vs h1 h2 h3 h4 h5
    have hp := hr r (List.mem_cons_self ..)
    have hrs := fun q hq => hr q (List.mem_cons_of_mem _ hq)
    have hany : ∀ (acc : List (NestedKey × Addr × Value)) (ks : List D), nkeyL ks = some (acc.map (·.1)) → (atKey acc r.2.2.1.1).isSome = hasT r.2.2.1.1 ks := by
      intro acc
      induction acc with
      | nil => intro ks h; cases ks with
        | nil => rfl
        | cons k ks => obtain ⟨_, _, e, _⟩ := nkeyL_cons h; cases e
      | cons p acc ih =>
        intro ks h
        cases ks with
        | nil => simp [nkeyL] at h
        | cons k ks =>
          obtain ⟨n, ms, e, e1, e2⟩ := nkeyL_cons h
          simp only [List.map_cons, List.cons.injEq] at e
          obtain ⟨rfl, rfl⟩ := e
          have := ih ks e2
          unfold atKey at this ⊢
          simp only [hasT, List.any_cons, e1]
          by_cases z : p.1 = r.2.2.1.1
          · simp [z]
          · rw [List.find?_cons_of_neg (by simpa using z), this]
            simp [z, hasT]
    simp only [List.map_cons, mrgT, hp.key]
    have hs : storedAllH acc (r.2.2.1 :: rows.map (·.2.2.1)) = storedAllH (storedH acc r.2.2.1.1 r.2.2.1.2.1 r.2.2.1.2.2) (rows.map (·.2.2.1)) := rfl
    rw [hs]
    by_cases z : hasT r.2.2.1.1 ks = true
    · rw [if_pos z]
      have z' : (atKey acc r.2.2.1.1).isSome = true := by rw [hany acc ks h1]; exact z
      have e : storedH acc r.2.2.1.1 r.2.2.1.2.1 r.2.2.1.2.2 = acc.map (putAt r.2.2.1.1 r.2.2.1.2.2) := by
        unfold storedH
        rw [if_pos z']
      rw [e]
      have k1 : (acc.map (putAt r.2.2.1.1 r.2.2.1.2.2)).map (·.1) = acc.map (·.1) := by
        rw [List.map_map]
        apply List.map_congr_left
        intro x _
        simp only [Function.comp, putAt]
        split <;> rfl
      have k2 : (acc.map (putAt r.2.2.1.1 r.2.2.1.2.2)).map (fun e => V.ref e.2.1) = acc.map (fun e => V.ref e.2.1) := by
        rw [List.map_map]
        apply List.map_congr_left
        intro x _
        simp only [Function.comp, putAt]
        split <;> rfl
      have k3 : ∀ (acc : List (NestedKey × Addr × Value)) (ks xs : List D) (vs : List V), nkeyL ks = some (acc.map (·.1)) → RepL X.K X.mg M F xs vs → Vals vs (acc.map (·.2.2)) → ∃ vs', RepL X.K X.mg M F (putT r.2.2.1.1 r.1.2 ks xs) vs' ∧ Vals vs' ((acc.map (putAt r.2.2.1.1 r.2.2.1.2.2)).map (·.2.2)) := by
        intro acc
        induction acc with
        | nil =>
          intro ks xs vs h _ hv
          cases ks with
          | nil => exact ⟨[], by simp [putT, RepL], .nil⟩
          | cons k ks => obtain ⟨_, _, e, _⟩ := nkeyL_cons h; cases e
        | cons p acc ih =>
          intro ks xs vs h rr hv
          cases ks with
          | nil => simp [nkeyL] at h
          | cons k ks =>
            obtain ⟨n, ms, e, e1, e2⟩ := nkeyL_cons h
            simp only [List.map_cons, List.cons.injEq] at e
            obtain ⟨rfl, rfl⟩ := e
            cases hv with
            | cons a b =>
              cases xs with
              | nil => simp [RepL] at rr
              | cons x xs =>
                obtain ⟨w, ws, e', ra, rb⟩ := rr
                simp only [List.cons.injEq] at e'
                obtain ⟨rfl, rfl⟩ := e'
                obtain ⟨vs', q1, q2⟩ := ih ks xs _ e2 rb b
                unfold putT
                rw [e1]
                by_cases y : p.1 = r.2.2.1.1
                · refine ⟨r.2.2.2 :: vs', .cons (by rw [if_pos (by rw [y])]; exact hp.rv) q1, ?_⟩
                  refine .cons ?_ q2
                  simp only [putAt, if_pos y]
                  exact hp.val
                · refine ⟨_ :: vs', .cons (by rw [if_neg (by simpa using y)]; exact ra) q1, ?_⟩
                  refine .cons ?_ q2
                  simp only [putAt, if_neg y]
                  exact a
      obtain ⟨vs', q1, q2⟩ := k3 acc ks xs vs h1 h4 h5
      refine ih hrs (by rw [k1]; exact h1) (fun x hx => ?_) (by rw [k2]; exact h3) q1 q2
      have : x.1 ∈ (acc.map (putAt r.2.2.1.1 r.2.2.1.2.2)).map (·.1) := List.mem_map_of_mem hx
      rw [k1] at this
      obtain ⟨y, hy, ey⟩ := List.mem_map.mp this
      rw [← ey]
      exact h2 y hy
    · rw [if_neg z]
      have z' : ¬ (atKey acc r.2.2.1.1).isSome = true := by rw [hany acc ks h1]; exact z
      have e : storedH acc r.2.2.1.1 r.2.2.1.2.1 r.2.2.1.2.2 = acc ++ [r.2.2.1] := by
        unfold storedH
        rw [if_neg z']
      rw [e]
      have kap : ∀ (ks : List D) (ns : List NestedKey), nkeyL ks = some ns → nkeyL (ks ++ [r.1.1]) = some (ns ++ [r.2.2.1.1]) := by
        intro ks
        induction ks with
        | nil => intro ns h; cases h; simp [nkeyL, hp.key]
        | cons k ks ih =>
          intro ns h
          obtain ⟨n, ms, rfl, e1, e2⟩ := nkeyL_cons h
          simp only [List.cons_append, nkeyL, e1, ih ms e2]
          rfl
      refine ih hrs ?_ (fun x hx => ?_) ?_ (h4.snoc hp.rv) ?_
      · rw [List.map_append]; exact kap ks _ h1
      · rcases List.mem_append.mp hx with hx | hx
        · exact h2 x hx
        · rw [List.mem_singleton.mp hx]; exact hp.few
      · rw [List.map_append]; exact h3.snoc hp.rk
      · rw [List.map_append]; exact h5.append (.cons hp.val .nil)
theorem cd_dictT (hc : X.calm = true) (hu : X.A.units + 65 < cLine) (hM : M.hash = NestedKey.hash X.w) : CallR X (.type "dict") (rDL M X dictTD) := by
  intro pins s σ H xs us Q I r ⟨F, ds, dz, g, rl, e, q⟩
  unfold dictTD at e
  split at e
  · rename_i zs
    split at e
    · rename_i ps hps
      obtain ⟨hk, rfl⟩ := e
      obtain ⟨x, rfl, r1⟩ := rl.one
      obtain ⟨u, rfl, ru⟩ := Vals.one r
      obtain ⟨a, vs, rfl, nf, hH, rr⟩ := r1
      cases ru
      obtain ⟨hz, its, n, hv, hlen, g1⟩ := I.lstM hH
      obtain ⟨rows, e1, e2, e3⟩ := pairs_are I g.inn hps hk rr hv
      subst e1 e2
      obtain ⟨ks', xs', vs', m1, m2, m3, m4, m5, m6⟩ := mrg_rep (X := X) (M := M) (F := F) e3 (acc := []) (ks := []) (xs := []) (vs := []) rfl (fun x hx => by simp at hx) rfl rfl .nil
      have hlr : rows.length ≤ sizeLine := by
        have : (rows.map (fun r => Value.ref r.2.1)).length = vs.length := hv.length.symm
        rw [List.length_map] at this
        omega
      rw [m1] at q
      have hh := I.ok.hd hc
      refine call_dict_pairsH (knd := nestedKind X.prog X.w) (ps := rows.map (·.2.2.1)) (PairArg.list a (rows.map fun r => Value.ref r.2.1).toArray (fun j => ((rows[j]?).map (·.2.1)).getD 0) (rows.map fun r => (Value.ref r.2.2.1.2.1, r.2.2.1.2.2))) hh ?_ ⟨⟨_, n, g1, rfl, rfl, rfl⟩, ?_, ?_⟩ ⟨?_, ?_⟩ ?_ ?_ fun h' tk hd hk' => ?_
      · show X.A.units + 1 + 1 + 8 < cLine
        omega
      · simp
      · intro j k v hj
        rw [List.getElem?_map] at hj
        obtain ⟨r, hr, hrv⟩ := Option.map_eq_some_iff.mp hj
        cases hrv
        have hm : r ∈ rows := List.mem_of_getElem? hr
        have hp := e3 r hm
        have ej : ((rows[j]?).map (·.2.1)).getD 0 = r.2.1 := by rw [hr]; rfl
        show _ = some (Value.ref (((rows[j]?).map (·.2.1)).getD 0)) ∧ PairAt s.heap (((rows[j]?).map (·.2.1)).getD 0) _ _
        rw [ej]
        refine ⟨?_, .inl ⟨_, hp.at_, rfl, _, rfl⟩⟩
        rw [List.getElem?_toArray, List.getElem?_map, hr]
        rfl
      · simp
      · intro i key v hj
        rw [PairRel, List.getElem?_map] at hj
        obtain ⟨r, hr, hrv⟩ := Option.map_eq_some_iff.mp hj
        cases hrv
        exact ⟨r.2.2.1.1, r.2.2.1.2.1, by rw [List.getElem?_map, hr]; rfl, rfl⟩
      · intro h' hk' x hx
        obtain ⟨r, hr, rfl⟩ := List.mem_map.mp hx
        have hp := e3 r hr
        refine nestedKind_stays.stays (h := s.heap) (fun b o vs n e _ => hk' b o (fun z => ?_) (by simp) e) ⟨hp.is, hp.few⟩
        rw [z] at e
        exact absurd (Heap.lt_size e) (Nat.lt_irrefl _)
      · rw [List.length_map]; exact hlr
      · obtain ⟨o, arr, ep, gd, ex, hdd, harr, his, hnd⟩ := hd
        have hsz : (storedAllH [] (rows.map (·.2.2.1))).length ≤ sizeLine := by
          have key : ∀ (ps acc : List (NestedKey × Addr × Value)), (storedAllH acc ps).length ≤ acc.length + ps.length := by
            intro ps
            induction ps with
            | nil => intro acc; exact Nat.le_refl _
            | cons p ps ih =>
              intro acc
              have h1 := ih (storedH acc p.1 p.2.1 p.2.2)
              have h2 : (storedH acc p.1 p.2.1 p.2.2).length ≤ acc.length + 1 := by
                unfold storedH
                split
                · rw [List.length_map]; omega
                · rw [List.length_append, List.length_singleton]
                  exact Nat.le_refl _
              have h3 : storedAllH acc (p :: ps) = storedAllH (storedH acc p.1 p.2.1 p.2.2) ps := rfl
              rw [h3, List.length_cons]
              omega
          have := key (rows.map (·.2.2.1)) []
          rw [List.length_map, List.length_nil] at this
          omega
        have I1 : L2.Inv X pins σ (upd H s.heap.objs.size (DX s.heap.objs.size o)) { s with heap := h', toks := tk } :=
          I.laid (fun b u e => hk' b u (by simp) e) (Nat.le_refl _) ⟨gd, ⟨o, gd⟩, fun h1 h2 hp hq => hq o hp⟩
        have np := I.fresh
        refine ⟨.ref s.heap.objs.size, _, I1, rfl, q _ _ (upd F s.heap.objs.size (DX s.heap.objs.size o)) (g.laid _ np) ⟨rfl, _, o, storedAllH [] (rows.map (·.2.2.1)), vs', rfl, ?_, upd_same, ⟨ex, arr, ep, hdd, ?_, hnd, m3⟩, hsz, m2, RepL.mono (upd_sub (g.noF np)) _ m4, RepL.mono (upd_sub (g.noF np)) _ m5, m6⟩⟩
        · have := I.big
          simp only [beq_eq_false_iff_ne, ne_eq]
          exact Nat.ne_of_gt this
        · rw [harr, hM]
          rfl
    · exact e.elim
  · exact e.elim
end
end PL
set_option Elab.async false
set_option linter.all false
set_option maxRecDepth 100000
namespace PL
open PySem PySem.Spec PyProof.Rows L2

/-! ### sorted -/
def ordD (a b : D) : Bool := PySem.W.dataLe false D.py a b
def srtOk (ds : List D) : Prop := okd (.lst ds) = true ∧ PySem.W.AllAlike (ds.map D.py) ∧ PySem.W.Sortable (ds.map D.py)
def sortedD (ds : List D) : Ret := match ds with
  | [.lst xs] => .cond (srtOk xs) (.lst (xs.mergeSort ordD))
  | [.tup xs] => .no
  | _ => .no
section
variable {M : Am} {W : WX} {X : Cx} {pos : Pos}
def IsD1 (M : Am) (X : Cx) (F : Hp) (v : Value) (d : D) : Prop := ∃ x, L2.RelV x v ∧ Rep X.K X.mg M F d x
theorem each_of {F : Hp} : ∀ {ds : List D} {vs : List V} {us : List Value}, RepL X.K X.mg M F ds vs → Vals vs us → PySem.W.EachIs (IsD1 M X F) us ds
  | [], vs, us, r, h => by
    rw [show vs = [] from r] at h
    cases h
    exact .nil
  | d :: ds, vs, us, r, h => by
    obtain ⟨x, xs, rfl, r1, r2⟩ := r
    cases h with
    | cons a b => exact .cons ⟨x, a, r1⟩ (each_of r2 b)
theorem of_each {F : Hp} {us : List Value} {ds : List D} (h : PySem.W.EachIs (IsD1 M X F) us ds) : ∃ vs, Vals vs us ∧ RepL X.K X.mg M F ds vs := by
  induction h with
  | nil => exact ⟨[], .nil, rfl⟩
  | cons a b ih =>
    obtain ⟨vs, h1, h2⟩ := ih
    obtain ⟨x, r1, r2⟩ := a
    exact ⟨x :: vs, .cons r1 h1, .cons r2 h2⟩
theorem each_reads {pins : List (Addr × Obj)} {σ : L2.St} {H F : Hp} {s : Shared} (I : L2.Inv X pins σ H s) (su : Sub F H) : ∀ {ds : List D} {vs : List V} {us : List Value}, okvL 59 ds = true → RepL X.K X.mg M F ds vs → Vals vs us → PySem.W.EachIs (fun v b => ∃ as, Reads s.heap v (D.py b) as) us ds
  | [], vs, us, _, r, h => by
    rw [show vs = [] from r] at h
    cases h
    exact .nil
  | d :: ds, vs, us, ho, r, h => by
    simp only [okvL, Bool.and_eq_true] at ho
    obtain ⟨x, xs, rfl, r1, r2⟩ := r
    cases h with
    | cons a b => exact .cons (Dp.reads I _ x _ (Dp.mono su _ (rep_dp (M := M) (mg := X.mg) _ 59 ho.1 r1)) a) (each_reads I su ho.2 r2 b)
theorem cd_sorted (hu : X.A.units + 65 < cLine) : CallR X (.builtin "sorted") (rO M X sortedD) := by
  intro pins s σ H xs us Q I r ⟨F, ds, dz, g, rl, e, q⟩
  unfold sortedD at e
  split at e
  · rename_i zs
    obtain ⟨⟨h1, h2, h3⟩, rfl⟩ := e
    obtain ⟨x, rfl, r1⟩ := rl.one
    obtain ⟨u, rfl, ru⟩ := Vals.one r
    obtain ⟨a, vs, rfl, _, sq, rr⟩ := arep_lst r1
    cases ru
    obtain ⟨its, hv, p, hz⟩ := I.list sq
    have hk : okvL 59 zs = true := by rw [← okd_seq]; exact h1
    refine PySem.W.sorted_data (enc := D.py) (R := IsD1 M X F) p.isList (each_of rr hv) (each_reads I g.inn hk rr hv) h2 h3 (by rw [← rr.length]; exact hz) (fun b hb => ?_) fun out hl ho => ?_
    · have : ∀ (ds : List D), okvL 59 ds = true → ∀ b ∈ ds, okv 59 b = true := by
        intro ds
        induction ds with
        | nil => intro _ b hb; simp at hb
        | cons d ds ih =>
          intro h b hb
          simp only [okvL, Bool.and_eq_true] at h
          rcases List.mem_cons.mp hb with rfl | hb
          · exact h.1
          · exact ih h.2 b hb
      have := (py_lay b 59 (this zs hk b hb)).2
      omega
    · obtain ⟨vs', hv', rr'⟩ := of_each ho
      obtain ⟨e, he⟩ := PyProof.Rows.sortedAll_at s.heap its out.toArray
      have hz' : vs'.length ≤ sizeLine := by rw [hv'.length, hl, ← rr.length]; exact hz
      have I1 : L2.Inv X pins σ (upd H (s.heap.objs.size + 1) (.lst vs')) { s with heap := PyProof.Rows.sortedAll s.heap its out.toArray, toks := s.toks } :=
        I.laid (fun b u e => PyProof.Rows.sortedAll_old e) (Nat.le_succ _) ⟨hz', out, e, hv', he⟩
      exact ⟨.ref (s.heap.objs.size + 1), _, I1, rfl, new_own g rr' q _ (I.hok.fresh (Nat.le_succ _))⟩
  · exact e.elim
  · exact e.elim
end
/-- numbers in order -/
theorem alike_ints (ns : List Int) : PySem.W.AllAlike ((ns.map D.int).map D.py) := by
  intro d hd d' hd'
  rw [List.map_map] at hd hd'
  obtain ⟨n, _, rfl⟩ := List.mem_map.mp hd
  obtain ⟨m, _, rfl⟩ := List.mem_map.mp hd'
  rfl
theorem srt_ints (ns : List Int) : srtOk (ns.map D.int) := by
  refine ⟨?_, alike_ints ns, .inr fun d hd => ?_⟩
  · rw [okd_seq]
    induction ns with
    | nil => rfl
    | cons n ns ih => simp [okvL, okv, ih]
  · rw [List.map_map] at hd
    obtain ⟨n, _, rfl⟩ := List.mem_map.mp hd
    exact ⟨fun z => (by cases z), fun xs z => (by cases z)⟩
theorem sort_ints (ns : List Int) : (ns.map D.int).mergeSort ordD = (ns.mergeSort (fun a b => decide (a ≤ b))).map D.int := by
  rw [PySem.W.sort_maps (s := ordD) D.int]
  intro a _ b _
  have := congrFun (congrFun (PySem.W.dataLe_int (fun n : Int => n)) a) b
  exact this.symm
end PL
set_option Elab.async false
set_option linter.all false
set_option maxRecDepth 100000
namespace PL
open PySem PySem.Spec PyProof.Rows L2

section
variable {M : Am} {W : WX} {X : Cx} {pos : Pos}
/-- many new things at once -/
theorem inv_many {pins : List (Addr × Obj)} {σ : L2.St} {H H' : Hp} {s : Shared} (I : L2.Inv X pins σ H s) {h' : Heap} {t' : Nat} (hk : ∀ (b : Addr) (u : Obj), s.heap.get? b = some u → h'.get? b = some u) (hold : ∀ b o, H b = some o → H' b = some o)
    (hnew : ∀ b o, H' b = some o → H b = some o ∨ (s.heap.get? b = none ∧ ObjOk X.prog X.w H' h' b o)) : L2.Inv X pins σ H' { s with heap := h', toks := t' } := by
  have I1 := I.kept (t' := t') hk
  have stays : ∀ b u, s.heap.get? b = some u → H b = none → H' b = none := fun b u hb hn => by
    cases e : H' b with
    | none => rfl
    | some o =>
      rcases hnew b o e with q | ⟨q, _⟩
      · rw [hn] at q; cases q
      · rw [hb] at q; cases q
  have eloc : ∃ u, s.heap.get? X.env.locals = some u := by
    obtain ⟨m, ⟨o, _, _, ho, _⟩, _⟩ := I.loc
    exact ⟨o, ho⟩
  refine ⟨I1.ok, I1.os, I1.bare, ⟨I1.base.keep, I1.base.slot, fun b o hb hn he => ?_, I1.base.there, fun b xs hb => hold _ _ (I1.base.tups b xs hb), fun b o u hb => hold _ _ (I1.base.frzs b o u hb), fun b ps hb => ?_⟩, I1.loc, I1.cell, ?_, fun x c hx => ?_, fun p hp => ?_, fun b o hb => ?_, I1.len⟩
  · obtain ⟨u, hu⟩ := I.base.there b o hb he
    exact stays b u hu (I1.base.free b o hb hn he)
  · obtain ⟨more, hm⟩ := I1.base.tbls b ps hb
    exact ⟨more, hold _ _ hm⟩
  · obtain ⟨u, hu⟩ := eloc
    exact stays _ u hu I.free
  · obtain ⟨v, o, hc, _⟩ := I.cell x c hx
    exact stays _ o hc (I.freeC x c hx)
  · obtain ⟨a1, a2, a3, a4, a5⟩ := I1.pin p hp
    exact ⟨a1, stays _ _ (I.pin p hp).1 a2, a3, a4, a5⟩
  · rcases hnew b o hb with q | ⟨_, q⟩
    · exact (I.hok b o q).stay (fun b u _ e => hk b u e) (fun b e => hold _ _ e) (fun b xs e => hold _ _ e)
    · exact q

/-! ### sorted(d.items()) -/
def flatD : D → Bool
  | .int _ => true
  | .str x => x.cps.all (· < 0x110000)
  | .bl _ => true
  | _ => false
theorem flat_reads {h : Heap} {d : D} {K : PySem.W.Frag} {mg : Str → Option Value} {F : Hp} {v : V} {u : Value} (hf : flatD d = true) (r : Rep K mg M F d v) (rv : L2.RelV v u) : Reads h u d.py [] := by
  cases d <;> first
    | (simp [flatD] at hf; done)
    | skip
  case int i => rw [show v = V.int i from r] at rv; obtain ⟨t, rfl⟩ := rv; exact .int i t
  case str i => rw [show v = V.str i from r] at rv; obtain ⟨t, rfl⟩ := rv; exact .str i t
  case bl i => rw [show v = V.bl i from r] at rv; rw [show u = .bool i from rv]; exact .bool i
theorem each_imp {α β : Type} {R S : α → β → Prop} (h : ∀ a b, R a b → S a b) : ∀ {as : List α} {bs : List β}, PySem.W.EachIs R as bs → PySem.W.EachIs S as bs
  | _, _, .nil => .nil
  | _, _, .cons a b => .cons (h _ _ a) (each_imp h b)
theorem each_len {α β : Type} {R : α → β → Prop} : ∀ {as : List α} {bs : List β}, PySem.W.EachIs R as bs → as.length = bs.length
  | _, _, .nil => rfl
  | _, _, .cons a b => by rw [List.length_cons, List.length_cons, each_len b]
theorem meets_sorted_items (r d : Addr) (es : Array DictEntry) (ep : Nat) (ds : List D) : Meets (Builtin.sorted { pos := [.ref r] }) (fun A R s => A.handled = none ∧ s.heap.IsItemsView r d ∧ s.heap.DictRaw d es ep ∧ es.size ≤ sizeLine ∧ PySem.W.AllAlike (ds.map D.py) ∧ PySem.W.Sortable (ds.map D.py) ∧ (∀ b ∈ ds, A.units + 3 + b.py.depth < cLine) ∧
    ∀ (h' : Heap) (tk : Nat) (as : List Addr), (∀ b o, s.heap.get? b = some o → h'.get? b = some o) → as.length = es.size → PySem.W.DilG es s.heap.objs.size h' as → ∃ RR : Value → D → Prop,
      PySem.W.EachIs RR (as.map .ref) ds ∧ (∀ h'', (∀ b o, h'.get? b = some o → h''.get? b = some o) → PySem.W.EachIs (fun v b => Reads h'' v (D.py b) []) (as.map .ref) ds) ∧
      ∀ (out : List Value), out.length = ds.length → PySem.W.EachIs RR out (ds.mergeSort ordD) →
        R (.ok (.ret (.ref h'.objs.size))) { s with heap := PyProof.Rows.sortedHeap (h'.push { cls := .type "list", data := .seq (as.map Value.ref).toArray }) h'.objs.size (as.map .ref) out.toArray, toks := tk }) := by
  intro prog w A R s ⟨hh, iv, raw, hz, h1, h2, h3, h4⟩
  unfold Builtin.sorted
  have e0 : checkCount "sorted" 1 1 ({ pos := [Value.ref r] } : Args).pos.length = pure () := rfl
  rw [e0, pure_bind]
  refine wpAny_bind (PySem.W.dil_collect hh iv raw hz fun h' tk as hk hl hG => wpAny_bind (wpAny_newList ?_ ?_))
  · have hg : (h'.push { cls := .type "list", data := .seq (as.map Value.ref).toArray }).get? h'.objs.size = some (PyProof.Rows.seqObj "list" (as.map Value.ref).toArray 0) := Heap.get?_push_size _ rfl
    obtain ⟨RR, e1, e2, h5⟩ := h4 h' tk as hk hl hG
    have e3 := e2 (h'.push { cls := .type "list", data := .seq (as.map Value.ref).toArray }) fun b o e => Heap.get?_push_of_some _ e
    refine wpAny_bind (wpAny_holding (PySem.W.list_sort_data (enc := D.py) (R := RR) (bs := ds) hg e1 ?_ h1 h2 ?_ ?_ fun out ho hs => ?_))
    · exact each_imp (fun a b h => ⟨[], h, by simp⟩) e3
    · rw [← each_len e1, List.length_map, hl]; exact hz
    · intro b hb
      have := h3 b hb
      show A.units + 1 + 1 + b.py.depth < cLine
      omega
    · exact wpAny_pure (h5 out ho hs)
  · rw [List.length_map, hl]; exact hz

theorem relV_inj {x y : V} {u : Value} (h : L2.RelV x u) (k : L2.RelV y u) : x = y := by
  cases x <;> cases y <;> simp only [L2.RelV] at h k <;> first
    | rfl
    | (obtain ⟨t, rfl⟩ := h; obtain ⟨t', k⟩ := k; cases k <;> rfl)
    | (obtain ⟨t, rfl⟩ := h; cases k <;> rfl)
    | (subst h; cases k <;> rfl)
    | (subst h; obtain ⟨t', k⟩ := k; cases k <;> rfl)
/-- the items of a dict's walk, by data -/
def itemsL (ks xs : List D) : List D := (ks.zip xs).map fun p => .tup [p.1, p.2]
def dSortItems (td : DT) : DT := fun ρ Q E => td ρ (fun x => match x with | .dct ks xs => (ks.all flatD && xs.all flatD) = true ∧ srtOk (itemsL ks xs) ∧ Q (.lst ((itemsL ks xs).mergeSort ordD)) | _ => False) E
theorem keyIs_rel {k : Key} {v : Value} (h : keyIs k v = true) : L2.RelV (kV k) v := by
  cases k with
  | inl i =>
    cases v <;> simp [keyIs, Value.isInt] at h
    exact ⟨_, by rw [h]⟩
  | inr x =>
    cases v <;> simp [keyIs, Value.isStrOf] at h
    exact ⟨_, by rw [h]⟩
theorem dict_rows {F : Hp} {kvs : List (Key × V)} {ks xs : List D} {vs : List (Key × Value)} (rk : RepL X.K X.mg M F ks (kvs.map fun p => kV p.1)) (rx : RepL X.K X.mg M F xs (kvs.map (·.2))) (hv : L2.KV kvs vs) : ∀ {es : List DictEntry}, es.length = kvs.length → (∀ (i : Nat) (hi : i < es.length) (k : Key) (v : Value), vs[i]? = some (k, v) → (mixKind X.prog X.w).is k es[i].key = true ∧ es[i].val = v) →
    ∃ rows : List ((D × D) × (V × V) × (Value × Value)), rows.map (·.1) = ks.zip xs ∧ es.map (fun e => (e.key, e.val)) = rows.map (·.2.2) ∧ ∀ r ∈ rows, Rep X.K X.mg M F r.1.1 r.2.1.1 ∧ Rep X.K X.mg M F r.1.2 r.2.1.2 ∧ L2.RelV r.2.1.1 r.2.2.1 ∧ L2.RelV r.2.1.2 r.2.2.2 := by
  induction hv generalizing ks xs with
  | nil =>
    intro es h _
    have : es = [] := List.length_eq_zero_iff.mp h
    subst this
    cases ks with
    | nil => exact ⟨[], rfl, rfl, fun r hr => by simp at hr⟩
    | cons k ks => obtain ⟨_, _, e, _⟩ := rk; cases e
  | cons a b ih =>
    intro es h hes
    rename_i p q kvs' vs'
    cases ks with
    | nil => simp [RepL] at rk
    | cons k ks =>
      cases xs with
      | nil => simp [RepL] at rx
      | cons x xs =>
        obtain ⟨a1, as1, e, ra, rk⟩ := rk
        simp only [List.map_cons, List.cons.injEq] at e
        obtain ⟨rfl, rfl⟩ := e
        obtain ⟨b1, bs1, e', rb, rx⟩ := rx
        simp only [List.map_cons, List.cons.injEq] at e'
        obtain ⟨rfl, rfl⟩ := e'
        cases es with
        | nil => simp at h
        | cons e0 es =>
          obtain ⟨rows, e1, e2, e3⟩ := ih rk rx (es := es) (by simpa using h) fun i hi k v hkv => by
            have := hes (i + 1) (by simpa using hi) k v (by simpa using hkv)
            simpa using this
          have h0 := hes 0 (by simp) q.1 q.2 (by simp)
          obtain ⟨h01, h02⟩ := h0
          refine ⟨((k, x), (kV p.1, p.2), (e0.key, e0.val)) :: rows, by simp [e1], by simp [e2], fun r hr => ?_⟩
          rcases List.mem_cons.mp hr with rfl | hr
          · refine ⟨ra, rb, ?_, ?_⟩
            · have h01 : keyIs q.1 e0.key = true := h01
              rw [a.1]
              exact keyIs_rel h01
            · have h02 : e0.val = q.2 := h02
              show L2.RelV p.2 e0.val
              rw [h02]; exact a.2
          · exact e3 r hr
theorem puo_sortItems {e : Expr} {p apos cpos : Pos} {td : DT} (hc : X.calm = true) (hu : X.A.units + 65 < cLine) (hg : Gl X "sorted") (hm : X.mg "sorted" = none) (he : PuB M W X e td) (hb : attributeBase e "items" X.env (eval e X.env) = eval e X.env := by rfl) (hl : (apos.endLine == cpos.line) = true := by rfl)
    (hf : ((((backTo cpos (starEach [] X.env)).all fun x => !x.fst) && (backToKw cpos (keywordEach [] X.env)).all fun x => x.fst.isSome) && decide ((([] : List Expr)).length + ([] : List Keyword).length + (if ([] : List Keyword).isEmpty = true then 0 else 1) < 30)) = true := by rfl)
    (hs : starEach [.Call (.Attribute e "items" apos) [] [] cpos] X.env = (false, eval (.Call (.Attribute e "items" apos) [] [] cpos) X.env) :: starEach [] X.env := by rfl) :
    PuO M W X (.Call (.Name "sorted" p) [.Call (.Attribute e "items" apos) [] [] cpos] [] pos) (dSortItems td) := ⟨fun pins s σ H QV I ⟨H0, F, ρ, Q, E, k, ht, q, ee⟩ => by
  refine Call_ (ld_blt I hg hm PyProof.Rows.boot_sorted (PyProof.Rows.callWith_builtin1 (wpAny_items_cons (wpAny_Call_method_late hb hf hl rfl (thn (he.run pins s σ H (fun x H1 => ∃ F1 dx, Gr M F H F1 H1 ∧ ARep X.K X.mg M F1 H1 dx x ∧ (match dx with | .dct ks xs => (ks.all flatD && xs.all flatD) = true ∧ srtOk (itemsL ks xs) ∧ Q (.lst ((itemsL ks xs).mergeSort ordD)) | _ => False)) I ⟨H0, F, ρ, _, E, k, ht, fun v H1 F1 d g r hq => ⟨F1, d, g, r, hq⟩, ee⟩) fun v s1 ⟨x, H1, I1, rv, F1, dx, g, r, hq⟩ => ?_)) hs) hs rfl))
  split at hq
  · rename_i ks xs
    obtain ⟨hfl, ⟨so1, so2, so3⟩, hq⟩ := hq
    rw [Bool.and_eq_true] at hfl
    obtain ⟨a, kvs, rfl, nf, hH, rk, rx⟩ := r
    cases rv
    obtain ⟨hz, hsys, vs, hkv, hd⟩ := dk_rd I1.hok hH
    obtain ⟨es, ep, raw, hes, hent⟩ := hd.raw
    have raw' := raw
    obtain ⟨od, hod, hex, hdd⟩ := raw'
    have hlv := hkv.length
    refine ⟨"dict", "dict.items", PySem.F.plainAttrs_dict, PySem.F.slot_dict_items, PySem.F.type_dict_items, hd.typeIs, fun b eb => ?_, PyProof.Rows.callWith_method0 (call_meetsIn PySem.F.slot_dict_items hd.typeIs PySem.F.entry_dict_items (PySem.F.args_dict_items_1 _) (meets_dict_items_raw a hsys) ⟨⟨es, ep, raw⟩, wpAny_items_nil ?_⟩)⟩
    · cases eb
      exact ⟨od, hod, hex.2.1⟩
    · -- the rows
      obtain ⟨rows, r1, r2, r3⟩ := dict_rows rk rx hkv (es := es.toList) (by simpa [hlv] using hes) fun i hi kk v hi' => by
        have := hent i (by simpa using hi) kk v hi'
        simpa using this
      have hlr : rows.length = es.size := by
        have := congrArg List.length r2
        simpa using this.symm
      have hds : itemsL ks xs = rows.map fun r => .tup [r.1.1, r.1.2] := by
        unfold itemsL
        rw [← r1, List.map_map]
        rfl
      have hflat : ∀ r ∈ rows, flatD r.1.1 = true ∧ flatD r.1.2 = true := fun r hr => by
        have hm : r.1 ∈ ks.zip xs := by rw [← r1]; exact List.mem_map_of_mem hr
        have := List.of_mem_zip (a := r.1.1) (b := r.1.2) hm
        exact ⟨List.all_eq_true.mp hfl.1 _ this.1, List.all_eq_true.mp hfl.2 _ this.2⟩
      refine call_function_meets (id := "sorted") rfl rfl PyProof.Rows.entry_sorted (PyProof.Rows.args_sorted1 _) (meets_sorted_items s1.heap.objs.size a es ep (itemsL ks xs)) ⟨I1.ok.hd hc, ⟨_, Heap.get?_push_size _ rfl, rfl, rfl⟩, ⟨od, Heap.get?_push_of_some _ hod, hex, hdd⟩, ?_, so2, so3, fun b hb => ?_, fun h' tk as hk hla hG => ?_⟩
      · rw [hes, ← hlv]; exact hz
      · rw [hds] at hb
        obtain ⟨r, hr, rfl⟩ := List.mem_map.mp hb
        obtain ⟨f1, f2⟩ := hflat r hr
        have dep : ∀ d : D, flatD d = true → d.py.depth = 0 := fun d h => by
          cases d <;> simp [flatD] at h <;> simp [D.py, PyData.depth]
        simp only [D.py, pyL, PyData.depth, PyData.depthAll, dep _ f1, dep _ f2]
        omega
      · -- each row's tuple
        have hk0 : ∀ b o, s1.heap.get? b = some o → h'.get? b = some o := fun b o e => hk b o (Heap.get?_push_of_some _ e)
        have each : ∀ (rows : List ((D × D) × (V × V) × (Value × Value))) (as : List Addr) (es : List DictEntry), as.length = es.length → es.map (fun e => (e.key, e.val)) = rows.map (·.2.2) → (∀ (j : Nat) (t : Addr), as[j]? = some t → ∃ hj : j < es.length, h'.get? t = some { cls := .type "tuple", data := .seq #[es[j].key, es[j].val] }) →
            PySem.W.EachIs (fun (v : Value) (r : (D × D) × (V × V) × (Value × Value)) => ∃ t, t ∈ as ∧ v = .ref t ∧ h'.get? t = some { cls := .type "tuple", data := .seq #[r.2.2.1, r.2.2.2] }) (as.map Value.ref) rows := by
          intro rows
          induction rows with
          | nil =>
            intro as es hl hm _
            have : es = [] := by simpa using hm
            subst this
            have : as = [] := List.length_eq_zero_iff.mp hl
            subst this
            exact .nil
          | cons r rows ih =>
            intro as es hl hm hg
            cases es with
            | nil => simp at hm
            | cons e es =>
              cases as with
              | nil => simp at hl
              | cons t as =>
                simp only [List.map_cons, List.cons.injEq] at hm
                obtain ⟨hj, h0⟩ := hg 0 t rfl
                refine .cons ⟨t, List.mem_cons_self .., rfl, ?_⟩ ?_
                · rw [h0, ← hm.1]
                  rfl
                · refine each_imp (fun v r ⟨t, h1, h2, h3⟩ => ⟨t, List.mem_cons_of_mem _ h1, h2, h3⟩) (ih as es (by simpa using hl) hm.2 fun j t ht => ?_)
                  obtain ⟨hj, h0⟩ := hg (j + 1) t (by simpa using ht)
                  exact ⟨by simpa using hj, by simpa using h0⟩
        have e0 := each rows as es.toList (by simpa using hla) r2 fun j t ht => by
          obtain ⟨hj, h0⟩ := hG.pairs j t ht
          exact ⟨by simpa using hj, by simpa using h0⟩
        have toD : ∀ {R : Value → ((D × D) × (V × V) × (Value × Value)) → Prop} {us : List Value} {rs : List ((D × D) × (V × V) × (Value × Value))}, (∀ r ∈ rs, r ∈ rows) → PySem.W.EachIs R us rs → PySem.W.EachIs (fun v d => ∃ r ∈ rows, d = .tup [r.1.1, r.1.2] ∧ R v r) us (rs.map fun r => D.tup [r.1.1, r.1.2]) := by
          intro R us rs hr h
          induction h with
          | nil => exact .nil
          | cons a b ih => exact .cons ⟨_, hr _ (List.mem_cons_self ..), rfl, a⟩ (ih fun r h => hr r (List.mem_cons_of_mem _ h))
        refine ⟨fun v d => ∃ r ∈ rows, d = .tup [r.1.1, r.1.2] ∧ ∃ t, t ∈ as ∧ v = .ref t ∧ h'.get? t = some { cls := .type "tuple", data := .seq #[r.2.2.1, r.2.2.2] }, ?_, fun h'' hk'' => ?_, fun out ho hsd => ?_⟩
        · rw [hds]
          exact toD (fun r h => h) e0
        · rw [hds]
          refine each_imp (fun v d ⟨r, hr, ed, t, _, ev, hget⟩ => ?_) (toD (fun r h => h) e0)
          subst ed ev
          obtain ⟨a1, a2, a3, a4⟩ := r3 r hr
          obtain ⟨f1, f2⟩ := hflat r hr
          exact .tuple (hk'' _ _ hget) rfl rfl (.cons (as := []) (bs := []) (flat_reads f1 a1 a3) (.cons (as := []) (bs := []) (flat_reads f2 a2 a4) .nil))
        · -- the heap behind
          have hlt : ∀ t ∈ as, s1.heap.objs.size < t := fun t ht => by
            have := hG.above t ht
            rw [Heap.size_push] at this
            exact Nat.lt_of_succ_lt this
          have hsome : ∀ t ∈ as, ∃ p : V × V, ∃ uk uv, h'.get? t = some { cls := .type "tuple", data := .seq #[uk, uv] } ∧ L2.RelV p.1 uk ∧ L2.RelV p.2 uv := by
            have key : ∀ (as' : List Addr) (rs : List ((D × D) × (V × V) × (Value × Value))), (∀ r ∈ rs, r ∈ rows) → PySem.W.EachIs (fun (v : Value) (r : (D × D) × (V × V) × (Value × Value)) => ∃ t, t ∈ as ∧ v = .ref t ∧ h'.get? t = some { cls := .type "tuple", data := .seq #[r.2.2.1, r.2.2.2] }) (as'.map Value.ref) rs → ∀ t ∈ as', ∃ p : V × V, ∃ uk uv, h'.get? t = some { cls := .type "tuple", data := .seq #[uk, uv] } ∧ L2.RelV p.1 uk ∧ L2.RelV p.2 uv := by
              intro as'
              induction as' with
              | nil => intro rs _ _ t ht; simp at ht
              | cons t0 as' ih =>
                intro rs hrs h t ht
                cases h with
                | cons a b =>
                  rename_i r rs'
                  rcases List.mem_cons.mp ht with rfl | ht
                  · obtain ⟨t', _, et, hget⟩ := a
                    cases et
                    obtain ⟨_, _, a3, a4⟩ := r3 r (hrs r (List.mem_cons_self ..))
                    exact ⟨r.2.1, _, _, hget, a3, a4⟩
                  · exact ih rs' (fun r h => hrs r (List.mem_cons_of_mem _ h)) b t ht
            exact key as rows (fun r h => h) e0
          have hch : ∃ c : Addr → V × V, ∀ t ∈ as, ∃ uk uv, h'.get? t = some { cls := .type "tuple", data := .seq #[uk, uv] } ∧ L2.RelV (c t).1 uk ∧ L2.RelV (c t).2 uv := by
            refine ⟨fun t => if h : t ∈ as then (hsome t h).choose else (.non, .non), fun t ht => ?_⟩
            simp only [dif_pos ht]
            exact (hsome t ht).choose_spec
          obtain ⟨c, hc'⟩ := hch
          have hget' : ∃ ob : Addr → Obj, ∀ t ∈ as, h'.get? t = some (ob t) ∧ TupO (ob t) := by
            refine ⟨fun t => (h'.get? t).getD { cls := .type "tuple", data := .seq #[] }, fun t ht => ?_⟩
            obtain ⟨uk, uv, hg', _, _⟩ := hc' t ht
            simp only [hg']
            exact ⟨rfl, _, rfl⟩
          obtain ⟨ob, hob⟩ := hget'
          -- the new heaps
          have hL : ∀ t ∈ as, t < h'.objs.size := fun t ht => Heap.lt_size (hob t ht).1
          have hLs : s1.heap.get? h'.objs.size = none := by
            cases e : s1.heap.get? h'.objs.size with
            | none => rfl
            | some o => exact absurd (Heap.lt_size (hk0 _ _ e)) (Nat.lt_irrefl _)
          have hH1 : ∀ b o, H1 b = some o → b ≠ h'.objs.size ∧ b ∉ as := fun b o hb => by
            obtain ⟨u, hu⟩ := objOk_get (I1.hok b o hb)
            refine ⟨fun z => ?_, fun z => ?_⟩
            · rw [z, hLs] at hu; cases hu
            · exact Nat.lt_irrefl _ (Nat.lt_trans (hlt b z) (Heap.lt_size hu))
          have keepB : ∀ b o, h'.get? b = some o → (PyProof.Rows.sortedHeap (h'.push { cls := .type "list", data := .seq (as.map Value.ref).toArray }) h'.objs.size (as.map .ref) out.toArray).get? b = some o := fun b o e => by
            have hb := Heap.lt_size e
            rw [PyProof.Rows.sortedHeap_old (Nat.ne_of_lt hb) (by rw [Heap.size_push]; exact Nat.lt_succ_of_lt hb)]
            exact Heap.get?_push_of_some _ e
          obtain ⟨ee, hlist⟩ := PyProof.Rows.sortedHeap_at (vs := as.map .ref) (out := out.toArray) (h := h'.push { cls := .type "list", data := .seq (as.map Value.ref).toArray }) (a := h'.objs.size) (n := 0) (Heap.get?_push_size _ rfl)
          let F' : Hp := fun b => if b ∈ as then some (.frz (ob b) (.tup [(c b).1, (c b).2])) else F1 b
          have subF : Sub F1 F' := fun b o hb => by
            show (if b ∈ as then _ else F1 b) = some o
            rw [if_neg (hH1 b o (g.inn b o hb)).2]; exact hb
          have reps : ∀ {us : List Value} {ds : List D}, PySem.W.EachIs (fun v d => ∃ r ∈ rows, d = .tup [r.1.1, r.1.2] ∧ ∃ t, t ∈ as ∧ v = .ref t ∧ h'.get? t = some { cls := .type "tuple", data := .seq #[r.2.2.1, r.2.2.2] }) us ds → ∃ ws, Vals ws us ∧ RepL X.K X.mg M F' ds ws := by
            intro us ds h
            induction h with
            | nil => exact ⟨[], .nil, rfl⟩
            | cons a b ih =>
              obtain ⟨ws, i1, i2⟩ := ih
              obtain ⟨r, hr, rfl, t, ht, rfl, hget⟩ := a
              obtain ⟨uk, uv, g1, g2, g3⟩ := hc' t ht
              rw [hget] at g1
              cases g1
              obtain ⟨a1, a2, a3, a4⟩ := r3 r hr
              have x1 := relV_inj a3 g2
              have x2 := relV_inj a4 g3
              refine ⟨.ref t :: ws, .cons rfl i1, .cons ⟨t, ob t, [(c t).1, (c t).2], rfl, if_pos ht, (hob t ht).2, ?_⟩ i2⟩
              exact .cons (Rep.mono subF _ (by rw [← x1]; exact a1)) (.cons (Rep.mono subF _ (by rw [← x2]; exact a2)) rfl)
          obtain ⟨ws, hws, hrep⟩ := reps hsd
          let H' : Hp := fun b => if b = h'.objs.size then some (.lst ws) else if b ∈ as then some (.frz (ob b) (.tup [(c b).1, (c b).2])) else H1 b
          have hold : ∀ b o, H1 b = some o → H' b = some o := fun b o hb => by
            obtain ⟨n1, n2⟩ := hH1 b o hb
            show (if b = h'.objs.size then _ else if b ∈ as then _ else H1 b) = some o
            rw [if_neg n1, if_neg n2]; exact hb
          have hlen : ws.length ≤ sizeLine := by
            rw [hws.length, ho, hds, List.length_map, hlr, hes, ← hlv]; exact hz
          have I2 : L2.Inv X pins σ H' { s1 with heap := PyProof.Rows.sortedHeap (h'.push { cls := .type "list", data := .seq (as.map Value.ref).toArray }) h'.objs.size (as.map .ref) out.toArray, toks := tk } := by
            refine inv_many I1 (fun b u e => keepB b u (hk0 b u e)) hold fun b o hb => ?_
            have hb : (if b = h'.objs.size then some (HO.lst ws) else if b ∈ as then some (.frz (ob b) (.tup [(c b).1, (c b).2])) else H1 b) = some o := hb
            by_cases z : b = h'.objs.size
            · rw [if_pos z] at hb
              cases hb
              refine .inr ⟨by rw [z]; exact hLs, hlen, out, ee, hws, by rw [z]; exact hlist⟩
            · rw [if_neg z] at hb
              by_cases y : b ∈ as
              · rw [if_pos y] at hb
                cases hb
                obtain ⟨uk, uv, g1, g2, g3⟩ := hc' b y
                obtain ⟨o1, o2⟩ := hob b y
                have e1 : ob b = { cls := .type "tuple", data := .seq #[uk, uv] } := by rw [o1] at g1; exact Option.some.inj g1
                refine .inr ⟨?_, keepB b _ o1, by show 2 ≤ sizeLine; decide, [uk, uv], .cons g2 (.cons g3 .nil), _, keepB b _ o1, by rw [e1], _, by rw [e1]⟩
                cases e : s1.heap.get? b with
                | none => rfl
                | some o => exact absurd (Nat.lt_trans (hlt b y) (Heap.lt_size e)) (Nat.lt_irrefl _)
              · rw [if_neg y] at hb
                exact .inl hb
          have nH1 : ∀ b, (b = h'.objs.size ∨ b ∈ as) → H1 b = none := fun b hb => by
            cases e : H1 b with
            | none => rfl
            | some o =>
              obtain ⟨n1, n2⟩ := hH1 b o e
              rcases hb with z | z
              · exact absurd z n1
              · exact absurd z n2
          have nfp : ∀ b, (b = h'.objs.size ∨ b ∈ as) → ¬ M.fp b := fun b hb z => M.tr H1 b g.inv z (nH1 b hb)
          have asL : h'.objs.size ∉ as := fun z => Nat.lt_irrefl _ (hL _ z)
          have g2 : Gr M F1 H1 F' H' := by
            refine ⟨fun b o _ hb => hold b o hb, subF, fun b o hb => ?_, fun b o hb => ?_, fun b o hb => ?_, M.stab H1 H' (fun b hb => ?_) g.inv⟩
            · have hb : (if b ∈ as then _ else F1 b) = some o := hb
              show (if b = h'.objs.size then _ else if b ∈ as then _ else H1 b) = some o
              by_cases y : b ∈ as
              · rw [if_neg (fun (z : b = h'.objs.size) => asL (by rw [← z]; exact y)), if_pos y]
                rw [if_pos y] at hb; exact hb
              · rw [if_neg y] at hb
                have := g.inn b o hb
                rw [if_neg (hH1 b o this).1, if_neg y]; exact this
            · have hb : (if b ∈ as then _ else F1 b) = some o := hb
              by_cases y : b ∈ as
              · exact nfp b (.inr y)
              · rw [if_neg y] at hb; exact g.off b o hb
            · have hb : (if b ∈ as then _ else F1 b) = some o := hb
              by_cases y : b ∈ as
              · exact .inr (nH1 b (.inr y))
              · rw [if_neg y] at hb; exact .inl hb
            · show (if b = h'.objs.size then _ else if b ∈ as then _ else H1 b) = H1 b
              rw [if_neg (fun z => nfp b (.inl z) hb), if_neg (fun z => nfp b (.inr z) hb)]
          refine ⟨.ref h'.objs.size, H', I2, rfl, q h'.objs.size H' F' (.lst ((itemsL ks xs).mergeSort ordD)) (g.trans g2) (g.free g.inv (nH1 _ (.inl rfl))) ?_ ⟨_, ws, rfl, if_pos rfl, hrep⟩ hq⟩
          show (if h'.objs.size ∈ as then _ else F1 h'.objs.size) = none
          rw [if_neg asL]
          cases e : F1 h'.objs.size with
          | none => rfl
          | some o => exact absurd rfl (hH1 _ o (g.inn _ _ e)).1
  · exact hq.elim⟩
end
end PL
set_option Elab.async false
set_option linter.all false
set_option maxRecDepth 100000
namespace PL
open PySem PySem.Spec PyProof.Rows L2

theorem hu65 {k : Nat} {A : Around} (h : RoomG k A) : A.units + 65 < cLine := by
  have := h.r.un
  omega
theorem hu64 {k : Nat} {A : Around} (h : RoomG k A) : A.units + 64 < cLine := by
  have := h.r.un
  omega
theorem rm {j k : Nat} {A : Around} (h : RoomG k A) (l : j ≤ k := by omega) : RoomG j A := h.mono l
section
variable {M : Am} {W : WX} {X : Cx} {pos : Pos} {st : Stmt}
/-- .. where it is one's own -/
def dFr (i : Nat) (t : DS) : DS := fun N ρ => match ρ[i]? with | some (some (.own d)) => t N (ρ.set i (some (.val d))) | _ => t N ρ
theorem pu_frS {i : Nat} {t : DS} (h : PuS M W X st t) : PuS M W X st (dFr i t) := ⟨fun pins s σ H D I ⟨F0, H0, F, ρ, N, k, ht, q⟩ => by
  unfold dFr at ht
  split at ht
  · rename_i d e
    refine (pu_fzS (i := i) h).run pins s σ H D I ⟨F0, H0, F, ρ, N, k, ?_, q⟩
    unfold dFz
    rw [e]
    exact ht
  · exact h.run pins s σ H D I ⟨F0, H0, F, ρ, N, k, ht, q⟩⟩
/-- y = [.. for ..], not changed later -/
def dOwnV (i : Nat) (t : DT) : DS := fun N ρ => t ρ (fun d => match d with | .lst ds => N.nx (ρ.set i (some (.val (.lst ds)))) | _ => False) N.ex
theorem ownV_imp {t : DT} {i : Nat} (D : Ends) (σ : L2.St) (H : Hp) (h : tS M W X (dOwnV i t) D σ H) : tAsg (tO M W X t) (gName i) D σ H := by
  obtain ⟨F0, H0, F, ρ, N, k, ht, q1, _, _, q4, q5⟩ := h
  refine ⟨H0, F, ρ, _, N.ex, k.env, ht, fun a H' F' d g n nF r hq => ?_, fun x c dx H' F' g => q5 x c dx σ H' F' (k.gr.trans g)⟩
  split at hq
  · rename_i ds
    obtain ⟨b, vs, e, hH, rl⟩ := r
    cases e
    have g' := g.freeze hH n (Gr.nofp k.env.inv n) nF
    exact q1 _ H' _ _ g'.sub ⟨k.gr.trans g', (k.env.grow g').set i (d := .lst ds) ⟨a, vs, rfl, upd_same, RepL.mono (upd_sub nF) _ rl⟩⟩ hq
  · exact hq.elim
theorem pu_ownLcV {i : Nat} {y : Str} {py : Pos} {elt tg iter : Expr} {ifs : List Expr} {scope : Scope} {own : List (Str × Nat)} {spos : Pos} {wi : DI} {T : Tg} {tt : DB} {te : DT} (hc : X.calm = true) (hN : X.N.Nodup) (hy : X.N[i]? = some y) (hyl : X.env.scope.names.lookup y = some .local)
    (hsw : swapsWith (.ListComp elt [⟨tg, iter, ifs, 0⟩] scope pos) (some (.Name y py)) spos.line X.env = pure true) (hi : PuI M W X tg iter wi) (ok : BlkOk X.N X.env.scope scope own)
    (hg : ∀ (s : Shared) (H : Hp) (C : Addr) (cl : List (Str × Addr)) (fp : List Addr), PuG M (X.blk s H scope (compEnvC scope cl C X.env) fp) tg T) (ht : ∀ (s : Shared) (H : Hp) (C : Addr) (cl : List (Str × Addr)) (fp : List Addr), PuTs M NoW (X.blk s H scope (compEnvC scope cl C X.env) fp) ifs tt)
    (he : ∀ (s : Shared) (H : Hp) (C : Addr) (cl : List (Str × Addr)) (fp : List Addr), PuE M NoW (X.blk s H scope (compEnvC scope cl C X.env) fp) elt te) (hT : ∀ i ∈ T.slots, i ∈ own.map (·.2) := by decide) (hs : ∀ x, foldedSetIterable iter X.env x = pure x := by intro _; rfl) :
    PuS M W X (.Assign [.Name y py] (.ListComp elt [⟨tg, iter, ifs, 0⟩] scope pos) spos) (dOwnV i (dComp wi T tt te (own.map (·.2)))) :=
  PSimp (ps_setLc hc hN hy hyl hsw hi ok hg ht he hs) fun D σ H h => by
    have := ownV_imp D σ H h
    exact comp_imp hT σ H _ this

/-! ### new lists by + and * -/
def rDO (M : Am) (X : Cx) (f : D → D → Ret) : R2 := fun x y H Q => ∃ F dx dy dz, Gr M F H F H ∧ ARep X.K X.mg M F H dx x ∧ ARep X.K X.mg M F H dy y ∧ (f dx dy).is dz ∧ ∀ a H' F', Gr M F H F' H' → H a = none → F' a = none → ORep X.K X.mg M F' H' dz (.ref a) → Q (.ref a) H'
theorem puo_bin {op : Operator} {a b : Expr} {f : D → D → Ret} {ta tb : DT} (ho : OpR X (binaryOp op) (rDO M X f)) (ha : PuB M W X a ta) (hb : PuB M W X b tb) : PuO M W X (.BinOp a op b pos) (dBin f ta tb) := PEimp (pe_op ho ha hb) fun σ H QV h => by
  obtain ⟨H0, F, ρ, Q, E, k, ht, q, e⟩ := h
  refine ⟨H0, F, ρ, _, E, k, ht, fun x H1 F1 dx g1 r1 h1 => ?_, e⟩
  refine ⟨H0, F1, ρ, _, E, k.grow g1, h1, fun y H2 F2 dy g2 r2 h2 => ?_, fun x c dx H' F' g => e x c dx H' F' (g1.trans g)⟩
  obtain ⟨dz, ez, h2⟩ := Ret.of h2
  have g12 := g1.trans g2
  exact ⟨F2, dx, dy, dz, g2.self, r1.grow g2, r2, ez, fun a H' F' g n nF r => q a H' F' dz (g12.trans g) (g12.free g12.inv n) nF r h2⟩
def addDO : D → D → Ret
  | .lst xs, .lst ys => .cond (xs.length + ys.length ≤ lim) (.lst (xs ++ ys))
  | _, _ => .no
def mulDO : D → D → Ret
  | .lst xs, .int k => (.cond (xs.length ≤ 1000 ∧ -1000 ≤ k ∧ k ≤ 1000) (.lst (List.replicate k.toNat xs).flatten))
  | _, _ => .no
theorem od_addO : OpR X (binaryOp .Add) (rDO M X addDO) := by
  intro pins s σ H x y v u Q I rx ry ⟨F, dx, dy, dz, g, r1, r2, e, q⟩
  unfold addDO at e
  split at e
  · rename_i xs ys
    obtain ⟨c, rfl⟩ := e
    obtain ⟨a, vs, rfl, h1, _, l1⟩ := arep_lst r1
    obtain ⟨b, us, rfl, h2, _, l2⟩ := arep_lst r2
    exact op_cat pins s σ H _ _ v u Q I rx ry ⟨a, b, vs, us, rfl, rfl, h1, h2, by rw [l1.length, l2.length]; exact c, new_own g (l1.append l2) q⟩
  · exact e.elim
theorem od_mulO : OpR X (binaryOp .Mult) (rDO M X mulDO) := by
  intro pins s σ H x y v u Q I rx ry ⟨F, dx, dy, dz, g, r1, r2, e, q⟩
  unfold mulDO at e
  split at e
  · rename_i xs k
    obtain ⟨c, rfl⟩ := e
    obtain ⟨a, vs, rfl, h1, _, l1⟩ := arep_lst r1
    have hk : k.toNat ≤ 1000 := by omega
    have hz : vs.length * k.toNat ≤ sizeLine := by
      rw [l1.length, sizeLine_eq]
      exact Nat.le_trans (Nat.mul_le_mul c.1 hk) (by decide)
    exact op_rep pins s σ H _ _ v u Q I rx ry ⟨a, k, vs, rfl, r2, h1, by omega, by omega, hz, new_own g (l1.rep _) q⟩
  · exact e.elim

/-! ### x.append(l.pop(k)) -/
def dAppPop (i j : Nat) (t : DT) : DS := fun N ρ => match ρ[i]?, ρ[j]? with
  | some (some (.own (.lst ds))), some (some (.own (.lst es))) => t ρ (fun d => match d with
    | .int k => (match ixN es.length k with
      | some n => (match es[n]? with | some x => -(2 ^ 63) ≤ k ∧ k < 2 ^ 63 ∧ ds.length < 16777216 ∧ N.nx ((ρ.set j (some (.own (.lst (es.eraseIdx n))))).set i (some (.own (.lst (ds ++ [x]))))) | none => False)
      | none => False)
    | _ => False) N.ex
  | _, _ => False
theorem RepL.eraseIdx {K : PySem.W.Frag} {mg : Str → Option Value} {F : Hp} : ∀ {ds : List D} {vs : List V} (n : Nat), RepL K mg M F ds vs → RepL K mg M F (ds.eraseIdx n) (vs.eraseIdx n)
  | [], _, n, h => by rw [show _ = [] from h]; simp [RepL]
  | d :: ds, _, 0, h => by
    obtain ⟨x, xs, rfl, r, t⟩ := h
    exact t
  | d :: ds, _, n + 1, h => by
    obtain ⟨x, xs, rfl, r, t⟩ := h
    exact ⟨x, xs.eraseIdx n, rfl, r, RepL.eraseIdx n t⟩
theorem ixN_seq {n k : Nat} {i : Int} (h : ixN n i = some k) : seqIndex? i n = some k := by
  unfold ixN at h
  unfold seqIndex?
  by_cases hi : 0 ≤ i
  · rw [if_pos hi] at h
    have e : (if i < 0 then i + (n : Int) else i) = i := if_neg (by omega)
    simp only [e]
    split at h
    · cases h
      rw [if_pos]
      simp only [Bool.and_eq_true, decide_eq_true_eq]
      omega
    · cases h
  · rw [if_neg hi] at h
    have e : (if i < 0 then i + (n : Int) else i) = i + n := if_pos (by omega)
    simp only [e]
    split at h
    · cases h
      rw [if_pos]
      simp only [Bool.and_eq_true, decide_eq_true_eq]
      omega
    · cases h
theorem pu_appPop {i j : Nat} {o l e : Expr} {t : DT} {apos cpos apos2 cpos2 : Pos} (h : ∀ te, PE X e te → PS X (.Expr (.Call (.Attribute o "append" apos) [.Call (.Attribute l "pop" apos2) [e] [] cpos2] [] cpos) pos) (tDrop (tBM X.K "list" rAppend (tVar i) (tCons (tBM X.K "list" rPopAt (tVar j) (tCons te tNil)) tNil)))) (he : PuE M W X e t) (hij : i ≠ j) :
    PuS M W X (.Expr (.Call (.Attribute o "append" apos) [.Call (.Attribute l "pop" apos2) [e] [] cpos2] [] cpos) pos) (dAppPop i j t) := PSimp (h _ he) fun D σ H ⟨F0, H0, F, ρ, N, k, ht, q1, _, _, q4, q5⟩ => by
  unfold dAppPop at ht
  split at ht
  · rename_i ds es e1 f1
    obtain ⟨a, vs, e2, hH, rl⟩ := own_lst k.env e1 k.env.refl
    obtain ⟨b, us, f2, hL, rm⟩ := own_lst k.env f1 k.env.refl
    have nab : b ≠ a := fun z => by
      subst z
      exact hij (k.env.dis i j _ _ b e1 f1 e2 f2)
    refine ⟨.ref a, e2, .inl ⟨rfl, vs, .inl (.inl hH)⟩, .ref b, f2, .inl ⟨rfl, us, .inl (.inl hL)⟩, H0, F, ρ, _, N.ex, k.env, ht, fun v H1 F1 d g r h1 => ?_, fun x c dx H' F' g => q5 x c dx σ H' F' (k.gr.trans g)⟩
    split at h1
    · rename_i kk
      split at h1
      · rename_i n hn
        split at h1
        · rename_i x hx
          obtain ⟨z1, z2, z3, h1⟩ := h1
          obtain ⟨a', vs', e2', hH', rl'⟩ := own_lst k.env e1 g
          rw [e2] at e2'; cases e2'
          obtain ⟨b', us', f2', hL', rm'⟩ := own_lst k.env f1 g
          rw [f2] at f2'; cases f2'
          obtain ⟨w, hw, rw'⟩ := rm'.get hx
          refine ⟨b, us', kk, n, w, rfl, by rw [show v = V.int kk from r], hL', z1, z2, by rw [rm'.length]; exact ixN_seq hn, hw, ?_⟩
          have k1 := k.upd (d' := .lst (es.eraseIdx n)) (o := .lst (us'.eraseIdx n)) g f1 f2 ⟨b, _, rfl, upd_same, rm'.eraseIdx n⟩
          have hil : (ρ.set j (some (.own (.lst (es.eraseIdx n)))))[i]? = some (some (.own (.lst ds))) := by rw [List.getElem?_set_ne (Ne.symm hij)]; exact e1
          have ha : (upd H1 b (.lst (us'.eraseIdx n))) a = some (.lst vs') := by rw [upd_ne (Ne.symm nab)]; exact hH'
          refine ⟨a, vs', w, rfl, rfl, ha, by rw [rl'.length, sizeLine_eq]; exact z3, ?_⟩
          exact q1 σ _ F1 _ g.sub (k1.upd (d' := .lst (ds ++ [x])) k1.env.refl hil e2 ⟨a, _, rfl, upd_same, rl'.snoc rw'⟩) h1
        · exact h1.elim
      · exact h1.elim
    · exact h1.elim
  · exact ht.elim
end
end PL
set_option Elab.async false
set_option linter.all false
set_option maxRecDepth 100000
namespace PL
open PySem PySem.Spec PyProof.Rows L2

/-! ### sets of numbers -/
theorem wp_setName {M : Model} {A : Around} {E : Value → Shared → Prop} {s : Shared} {v : Value} {Q : String → Shared → Prop} (ty : s.TypeIs v "set") (q : Q "set" s) : wpAny M A (typeNameOfCut 200 v) Q E s := by
  unfold typeNameOfCut shownTypeOf
  refine wpAny_bind (wpAny_bind (wpAny_typeOf ty ?_))
  have e : (Value.type "set" == Value.type "builtin_function_or_method") = false := by decide
  simp only [e, Bool.false_eq_true, if_false]
  refine wpAny_pure ?_
  have e2 : typeNameCut 200 (Value.type "set") = pure "set" := rfl
  rw [e2]
  exact wpAny_pure q
theorem wpAny_ite_neg {α : Type} {M : Model} {A : Around} {E : Value → Shared → Prop} {s : Shared} {c : Prop} [Decidable c] {t u : Sem α} {Q : α → Shared → Prop} (h : ¬ c) (k : wpAny M A u Q E s) : wpAny M A (if c then t else u) Q E s := by
  rw [if_neg h]; exact k
theorem code_type {prog : Program} {w : World} {A : Around} {R : Result → Shared → Prop} {s : Shared} {T : String} {args : List Value} (h : codeAny (model prog w) A (Code.builtin "type.__call__" { pos := .type T :: args }) R s) : codeAny (model prog w) A (Code.call (.type T) { pos := args }) R s := by
  refine PySem.W.X.y_code prog w A R s _ ?_
  have e : denote table (Code.call (.type T) { pos := args }) = again (Code.builtin "type.__call__" { pos := Value.type T :: args, kw := [] }) := rfl
  rw [e]
  intro Γ p h1 h2
  exact ⟨Code.quiet_builtin _ (by decide +kernel), h⟩
theorem wp_isInst {M : Model} {A : Around} {E : Value → Shared → Prop} {s : Shared} {v : Value} {T U : String} {b : Bool} {Q : Bool → Shared → Prop} (ty : s.TypeIs v T) (h : isSubtype (.type T) (.type U) = pure b) (q : Q b s) : wpAny M A (isInstance v (.type U)) Q E s := by
  unfold isInstance
  refine wpAny_bind (wpAny_typeOf ty ?_)
  rw [h]
  exact wpAny_pure q
/-- set(x): the set, then what it takes from x -/
theorem call_set_1 {prog : Program} {w : World} {A : Around} {E : Value → Shared → Prop} {s : Shared} {x : Value} {T : String} {Q : Value → Shared → Prop} (hx : s.TypeIs x T) (hn : isSubtype (.type T) (.type "set") = pure false) (hf : isSubtype (.type T) (.type "frozenset") = pure false) (hd : (Value.type T == Value.type "dict") = false)
    (h : wpAny (model prog w) ((A.under (Code.builtin "type.__call__" { pos := [.type "set", x] })).in1) (pyIter x) (fun I s1 => codeAny (model prog w) ((A.under (Code.builtin "type.__call__" { pos := [.type "set", x] })).in1) (Code.builtin "set.update.loop" { pos := [.ref s.heap.objs.size, I] }) (fun r s' => match r with
        | .ok (.ret _) => Q (.ref s.heap.objs.size) s'
        | .ok _ => False
        | .error e => E e s') s1) E
      { s with heap := s.heap.push { cls := .type "set", data := .set #[] 0 (SetTable.fresh 0 0 !w.params.followText "set-order") } }) : wpAny (model prog w) A (call (.type "set") [x]) Q E s := by
  refine wpAny_runValue (code_type (codeAny_builtin entry_typeCall ?_))
  unfold Builtin.«type.__call__»
  dsimp only
  have e1 : (Value.type "set" == Value.type "type") = false := by decide
  simp only [e1, Bool.false_eq_true, if_false]
  rw [if_neg (by rw [F.called_set.canCreate]; decide), F.typeCall_set_1, pure_bind]
  obtain ⟨c, tl, hm⟩ := F.called_set.mro
  rw [hm, pure_bind]
  simp only [List.isEmpty_cons, Bool.false_eq_true, if_false]
  rw [F.called_set.made, pure_bind]
  dsimp only
  rw [pure_bind]
  refine wpAny_bind (wpAny_holding (wpAny_runValue (code_set_led1 x ?_)))
  have hg : (s.heap.push { cls := .type "set", data := .set #[] 0 (SetTable.fresh 0 0 !w.params.followText "set-order") }).get? s.heap.objs.size = some { cls := .type "set", data := .set #[] 0 (SetTable.fresh 0 0 !w.params.followText "set-order") } := Heap.get?_push_size _ rfl
  have ty : ({ s with heap := s.heap.push { cls := .type "set", data := .set #[] 0 (SetTable.fresh 0 0 !w.params.followText "set-order") } } : Shared).TypeIs (.ref s.heap.objs.size) "set" := ⟨_, hg, rfl⟩
  have tx : ({ s with heap := s.heap.push { cls := .type "set", data := .set #[] 0 (SetTable.fresh 0 0 !w.params.followText "set-order") } } : Shared).TypeIs x T := by
    cases x <;> first
      | exact hx
      | skip
    case ref a =>
      obtain ⟨o, h1, h2⟩ := hx
      exact ⟨o, Heap.get?_push_of_some _ h1, h2⟩
  refine wpAny_bind (wp_isInst ty F.called_set.sub ?_)
  simp only [Bool.not_true, Bool.false_eq_true, if_false]
  refine wpAny_bind (wpAny_holding (wpAny_callSpecial?_slot ty F.called_set.init (wpAny_runValue (codeAny_call_builtin (by decide +kernel) F.entry_set_init (check_set_init_1 ty ?_)))))
  unfold Builtin.«set.__init__»
  have e0 : noKeywords "set" ({ pos := [.ref s.heap.objs.size, x] } : Args) = pure () := rfl
  rw [e0, pure_bind]
  dsimp only
  refine wpAny_bind (wp_setName ty ?_)
  have e1 : checkCount "set" 0 1 [x].length = pure () := rfl
  rw [e1, pure_bind]
  have e2 : Builtin.Frozenset.addrOf (Value.ref s.heap.objs.size) = pure s.heap.objs.size := rfl
  rw [e2, pure_bind]
  unfold setUsed setState
  refine wpAny_bind (wpAny_bind (wpAny_bind (wpAny_load hg ?_)))
  dsimp only
  refine wpAny_ite_neg (by simp [SetTable.fresh, SetTable.fill]) (wpAny_pure (wpAny_pure ?_))
  refine wpAny_ite_neg (by simp [SetTable.fresh, SetTable.fill]) ?_
  unfold Builtin.Frozenset.updateFrom Builtin.Frozenset.isAnySet
  refine wpAny_bind (wpAny_bind ?_)
  unfold orM
  refine wpAny_bind (wp_isInst tx hn ?_)
  refine (wp_isInst (U := "frozenset") tx hf ?_)
  refine wpAny_ite_neg (by decide) (wpAny_bind (wpAny_typeOf tx ?_))
  refine wpAny_ite_neg (by rw [hd]; decide) ?_
  refine wpAny_bind (wpAny_mono h (fun I s1 q => ?_) fun e s1 q => q)
  refine wpAny_bind (wpAny_runValue (codeAny_mono q fun r s2 q2 => ?_))
  cases r with
  | error e => exact q2
  | ok f =>
    cases f with
    | ret v =>
      refine wpAny_pure (wpAny_pure ?_)
      refine wpAny_ite_neg (by decide) (wpAny_pure q2)
    | _ => exact q2
/-- set(x) of a list of numbers -/
theorem call_set_listI {prog : Program} {w : World} {A : Around} {E : Value → Shared → Prop} {s : Shared} {l : Addr} {items : Array Value} {ns : List Int} {Q : Value → Shared → Prop} (hh : A.handled = none) (hl : s.heap.IsList l items) (hi : PyProof.Rows.IntsAre items.toList ns) (hz : ns.length + 1 < scanBound)
    (hQ : ∀ (h' : Heap) (tk c : Nat), SetR w h' s.heap.objs.size (fun j => decide (j ∈ ns)) c → c ≤ ns.length → (∀ (b : Addr) (o : Obj), s.heap.get? b = some o → h'.get? b = some o) → Q (.ref s.heap.objs.size) { s with heap := h', toks := tk }) : wpAny (model prog w) A (call (.type "set") [.ref l]) Q E s := by
  obtain ⟨ol, g1, c1, n1, d1⟩ := hl
  refine call_set_1 (T := "list") ⟨ol, g1, c1⟩ rfl rfl (by decide) ?_
  have hl2 : (s.heap.push { cls := .type "set", data := .set #[] 0 (SetTable.fresh 0 0 !w.params.followText "set-order") }).IsList l items := ⟨ol, Heap.get?_push_of_some _ g1, c1, n1, d1⟩
  refine wpAny_pyIter_list hl2 ?_
  have sz : s.heap.objs.size < (s.heap.push { cls := .type "set", data := .set #[] 0 (SetTable.fresh 0 0 !w.params.followText "set-order") }).objs.size := by rw [Heap.size_push]; exact Nat.lt_succ_self _
  have hls : l < s.heap.objs.size := Heap.lt_size g1
  have hlI : l ≠ (s.heap.push { cls := .type "set", data := .set #[] 0 (SetTable.fresh 0 0 !w.params.followText "set-order") }).objs.size := Nat.ne_of_lt (Nat.lt_trans hls sz)
  have hlen : items.size = ns.length := by
    have key : ∀ (vs : List Value) (ns : List Int), PyProof.Rows.IntsAre vs ns → vs.length = ns.length := by
      intro vs ns h
      induction h with
      | nil => rfl
      | cons n t h ih => simp [ih]
    have := key _ _ hi
    simpa using this
  have hset := setR_fresh (h := s.heap) w
  refine set_update_ints (Walks.toS (Walks.list (by exact hh) _ l hlI items)) s.heap.objs.size ?_ ns hlen hz ?_ items.size 0 _ rfl (Nat.zero_le _) ⟨⟨_, Heap.get?_push_size _ rfl, rfl, rfl⟩, ⟨ol, Heap.get?_push_of_some _ (Heap.get?_push_of_some _ g1), c1, n1, d1⟩⟩ ⟨0, Nat.le_refl _, ?_⟩ fun s' c mv hc hR => ?_
  · intro hm
    simp only [List.mem_cons, List.not_mem_nil, or_false] at hm
    rcases hm with z | z
    · exact absurd z (Nat.ne_of_lt sz)
    · exact absurd z (Nat.ne_of_gt hls)
  · intro i v hv
    have key : ∀ (vs : List Value) (ns : List Int), PyProof.Rows.IntsAre vs ns → ∀ (i : Nat) v, vs[i]? = some v → ∃ k t, ns[i]? = some k ∧ v = Value.int k t := by
      intro vs ns h
      induction h with
      | nil => intro i v h; simp at h
      | cons n t h ih =>
        intro i v hv
        cases i with
        | zero => simp at hv; exact ⟨n, t, rfl, hv.symm⟩
        | succ i => exact ih i v (by simpa using hv)
    exact key _ _ hi i v (by simpa using hv)
  · refine SetR.congr (SetR.at hset ?_) (fun j => by simp)
    exact fun o e => Heap.get?_push_of_some _ e
  · have keeps : ∀ (b : Addr) (o : Obj), s.heap.get? b = some o → s'.heap.get? b = some o := fun b o e => by
      have hb := Heap.lt_size e
      refine mv.heap b o (fun hm => ?_) (Heap.get?_push_of_some _ (Heap.get?_push_of_some _ e))
      simp only [List.mem_cons, List.not_mem_nil, or_false] at hm
      rcases hm with z | z
      · exact absurd z (Nat.ne_of_lt hb)
      · exact absurd z (Nat.ne_of_lt (Nat.lt_trans hb sz))
    have es : s' = { s with heap := s'.heap, toks := s'.toks } := by
      obtain ⟨h, g, d, t, o⟩ := s'
      have e1 := mv.gens
      have e2 := mv.drawn
      have e3 := mv.os
      simp only at e1 e2 e3
      subst e1 e2 e3
      rfl
    rw [es]
    exact hQ s'.heap s'.toks c hR (by rw [← hlen]; exact hc) keeps
section
variable {M : Am} {W : WX} {X : Cx} {pos : Pos}
theorem ints_are : ∀ {ns : List Int} {us : List Value}, Vals (ns.map V.int) us → PyProof.Rows.IntsAre us ns
  | [], _, h => by cases h; exact .nil
  | n :: ns, _, h => by
    cases h with
    | cons a b =>
      obtain ⟨t, rfl⟩ := a
      exact .cons n t (ints_are b)
theorem are_ints : ∀ {ns : List Int} {us : List Value}, PyProof.Rows.IntsAre us ns → Vals (ns.map V.int) us
  | _, _, .nil => .nil
  | _, _, .cons n t h => .cons ⟨t, rfl⟩ (are_ints h)
/-- sorted(set(x)), x a list or a tuple of numbers -/
def dSortSet (t : DT) : DT := fun ρ Q E => t ρ (fun x => match seqD x with
  | some (_, ds) => (match intsD ds with | some ns => ns.length < 64 ∧ ∀ out : List Int, out.Pairwise (· < ·) → (∀ k, k ∈ out ↔ k ∈ ns) → Q (.lst (out.map D.int)) | none => False)
  | none => False) E
theorem boot_set' : bootBuiltins "set" = some (.type "set") := by rfl
theorem puo_sortSet {e : Expr} {p p2 q : Pos} {t : DT} (hc : X.calm = true) (hg : Gl X "sorted") (hm : X.mg "sorted" = none) (hg2 : Gl X "set") (hm2 : X.mg "set" = none) (he : PuB M W X e t)
    (hs : starEach [.Call (.Name "set" p2) [e] [] q] X.env = (false, eval (.Call (.Name "set" p2) [e] [] q) X.env) :: starEach [] X.env := by rfl) (hs2 : starEach [e] X.env = (false, eval e X.env) :: starEach [] X.env := by rfl) :
    PuO M W X (.Call (.Name "sorted" p) [.Call (.Name "set" p2) [e] [] q] [] pos) (dSortSet t) := ⟨fun pins s σ H QV I ⟨H0, F, ρ, Q, E, k, ht, qq, ee⟩ => by
  refine Call_ (ld_blt I hg hm PyProof.Rows.boot_sorted (PyProof.Rows.callWith_builtin1 (wpAny_items_cons ?_ hs) hs rfl))
  refine Call_ (ld_blt I hg2 hm2 boot_set' (PyProof.Rows.callWith_type1 (wpAny_items_cons (thn (he.run pins s σ H (fun x H1 => ∃ F1 dx, Gr M F H F1 H1 ∧ ARep X.K X.mg M F1 H1 dx x ∧ (match seqD dx with
      | some (_, ds) => (match intsD ds with | some ns => ns.length < 64 ∧ ∀ out : List Int, out.Pairwise (· < ·) → (∀ k, k ∈ out ↔ k ∈ ns) → Q (.lst (out.map D.int)) | none => False)
      | none => False)) I ⟨H0, F, ρ, _, E, k, ht, fun v H1 F1 d g r hq => ⟨F1, d, g, r, hq⟩, ee⟩) fun v s1 ⟨x, H1, I1, rv, F1, dx, g, r, hq⟩ => wpAny_items_nil ?_) hs2) hs2 rfl))
  split at hq
  · rename_i kd ds ed
    split at hq
    · rename_i ns hns
      obtain ⟨hl, hq⟩ := hq
      rw [intsD_of hns] at ed
      have hz : ns.length + 1 < scanBound := by
        have : scanBound = 4096 := by decide
        omega
      -- the set, then its list
      have fin : ∀ (a : Addr) (h' : Heap) (tk c : Nat), SetR X.w h' s1.heap.objs.size (fun j => decide (j ∈ ns)) c → c ≤ ns.length → (∀ (b : Addr) (o : Obj), s1.heap.get? b = some o → h'.get? b = some o) →
          wpAny (model X.prog X.w) X.A (spliced (backTo pos (starEach [] X.env))) (fun vs s₁ => wpAny (model X.prog X.w) X.A (call (.builtin "sorted") (.ref s1.heap.objs.size :: vs)) (EP X pins σ QV) X.xe s₁) X.xe { s1 with heap := h', toks := tk } := fun a h' tk c hR hc' hk => by
        refine wpAny_items_nil (sorted_set hR (I1.ok.hd hc) (by omega) fun s' p' out c' os hk' eg eo hp hget hio hpw hmem hcnt => ?_)
        have hk2 : ∀ (b : Addr) (o : Obj), s1.heap.get? b = some o → s'.heap.get? b = some o := fun b o e => hk' b o (hk b o e)
        have hv := are_ints hio
        have hpn : s1.heap.get? p' = none := by
          cases e : s1.heap.get? p' with
          | none => rfl
          | some o => exact absurd (Nat.lt_of_lt_of_le (Heap.lt_size (hk p' o e)) hp) (Nat.lt_irrefl _)
        have nH : H1 p' = none := by
          cases e : H1 p' with
          | none => rfl
          | some o =>
            obtain ⟨u, hu⟩ := objOk_get (I1.hok p' o e)
            rw [hpn] at hu; cases hu
        have hol : (os.map V.int).length ≤ sizeLine := by
          rw [List.length_map, hcnt, sizeLine_eq]
          omega
        have I2 : L2.Inv X pins σ (upd H1 p' (.lst (os.map V.int))) { s1 with heap := s'.heap, toks := s'.toks } := by
          refine inv_many I1 hk2 (fun b o e => by rw [upd_ne (ne_of_none e nH)]; exact e) fun b o e => ?_
          by_cases z : b = p'
          · subst z
            rw [upd_same] at e; cases e
            refine .inr ⟨hpn, hol, out.toList, c', hv, ?_⟩
            rw [hget]
          · rw [upd_ne z] at e; exact .inl e
        have I3 : L2.Inv X pins σ (upd H1 p' (.lst (os.map V.int))) s' := by
          refine ⟨I2.ok, eo.trans I2.os, ?_, I2.base, I2.loc, I2.cell, I2.free, I2.freeC, I2.pin, I2.hok, I2.len⟩
          rw [eg]; exact I2.bare
        refine ⟨.ref p', _, I3, rfl, ?_⟩
        exact new_own g.self (repL_ints os) (fun a H' F' g' n nF r => qq a H' F' _ (g.trans g') (g.free g.inv n) nF r (hq os hpw fun k => by rw [hmem]; simp)) p' nH
      cases dx <;> first
        | (cases ed; done)
        | skip
      case lst xs =>
        simp only [seqD, Option.some.injEq, Prod.mk.injEq] at ed
        obtain ⟨_, rfl⟩ := ed
        obtain ⟨a, vs, rfl, _, sq, rr⟩ := arep_lst r
        cases rv
        obtain ⟨its, hv, p', hz'⟩ := I1.list sq
        rw [rr.ints] at hv
        exact call_set_listI (I1.ok.hd hc) p'.isList (by simpa using ints_are hv) hz fun h' tk c hR hc' hk => fin a h' tk c hR hc' hk
      case tup xs =>
        simp only [seqD, Option.some.injEq, Prod.mk.injEq] at ed
        obtain ⟨_, rfl⟩ := ed
        obtain ⟨a, vs, us, rfl, g1, hv, hz', sq, rr⟩ := arep_tupO I1 g.inn r
        cases rv
        rw [rr.ints] at hv
        exact call_set_tupI ns (I1.ok.hd hc) ⟨_, g1, rfl, _, rfl⟩ (by simpa using ints_are hv) hz fun h' tk c hR hc' hk => fin a h' tk c hR hc' hk
    · exact hq.elim
  · exact hq.elim⟩
end
end PL
set_option Elab.async false
set_option linter.all false
set_option maxRecDepth 100000
namespace PL
open PySem PySem.Spec PyProof.Rows L2

/-! ### repr -/
mutual
def pyD : D → Option PyData
  | .non => some .none
  | .bl b => some (.bool b)
  | .int i => some (.int i)
  | .str s => some (.str s)
  | .tup ds => (pyDs ds).map .tuple
  | .lst ds => (pyDs ds).map .list
  | _ => none
def pyDs : List D → Option (List PyData)
  | [] => some []
  | d :: ds => (pyD d).bind fun k => (pyDs ds).map (k :: ·)
end
mutual
theorem pyD_nodict : ∀ (d : D) {p : PyData}, pyD d = some p → p.hasDict = false
  | .non, _, h => by cases h; rfl
  | .bl _, _, h => by cases h; rfl
  | .int _, _, h => by cases h; rfl
  | .str _, _, h => by cases h; rfl
  | .tup ds, _, h => by
    obtain ⟨ps, e, rfl⟩ := Option.map_eq_some_iff.mp h
    simpa only [PyData.hasDict] using pyDs_nodict ds e
  | .lst ds, _, h => by
    obtain ⟨ps, e, rfl⟩ := Option.map_eq_some_iff.mp h
    simpa only [PyData.hasDict] using pyDs_nodict ds e
  | .ty _, _, h => by cases h
  | .dct _ _, _, h => by cases h
  | .tdc _ _, _, h => by cases h
  | .obj _ _ _, _, h => by cases h
  | .glo _, _, h => by cases h
  | .hand, _, h => by cases h
theorem pyDs_nodict : ∀ (ds : List D) {ps : List PyData}, pyDs ds = some ps → PyData.hasDictAll ps = false
  | [], _, h => by cases h; rfl
  | d :: ds, _, h => by
    obtain ⟨p, e, h⟩ := Option.bind_eq_some_iff.mp h
    obtain ⟨ps, e2, rfl⟩ := Option.map_eq_some_iff.mp h
    simp only [PyData.hasDictAll, pyD_nodict d e, pyDs_nodict ds e2, Bool.or_self]
end
def rpOk (p : PyData) : Bool := p.showable && decide (p.depth ≤ 60) && p.leavesShort 13 && decide (p.bulk ≤ 2 ^ 20)
def reprD : List D → Ret
  | [d] => match pyD d with
    | some p => .cond (rpOk p = true) (.str p.shown)
    | none => .no
  | _ => .no
section
variable {K : PySem.W.Frag} {mg : Str → Option Value} {M : Am} {F H : Hp} {P : Program} {w : World} {h : Heap}
mutual
theorem reads_rep (s : Sub F H) (ok : HOk P w H h) : ∀ (d : D) {p : PyData} {v : V} {u : Value}, pyD d = some p → Rep K mg M F d v → RelV v u → ∃ as, Reads h u p as
  | .non, _, _, _, e, r, ru => by
    cases e; cases (show _ = V.non from r); cases (show _ = Value.none from ru); exact ⟨_, .none⟩
  | .bl _, _, _, _, e, r, ru => by
    cases e; cases (show _ = V.bl _ from r); cases (show _ = Value.bool _ from ru); exact ⟨_, .bool _⟩
  | .int _, _, _, _, e, r, ru => by
    cases e; cases (show _ = V.int _ from r)
    obtain ⟨t, rfl⟩ := ru
    exact ⟨_, .int _ t⟩
  | .str _, _, _, _, e, r, ru => by
    cases e; cases (show _ = V.str _ from r)
    obtain ⟨t, rfl⟩ := ru
    exact ⟨_, .str _ t⟩
  | .tup ds, _, _, _, e, r, ru => by
    obtain ⟨ps, e1, rfl⟩ := Option.map_eq_some_iff.mp e
    obtain ⟨a, o, vs, rfl, q, ⟨arr, ho⟩, rl⟩ := r
    obtain ⟨e2, hl, its, rv, t⟩ := ok a _ (s a _ q)
    obtain rfl : _ = Value.ref a := ru
    obtain ⟨o', g1, g2, g3, g4⟩ := t
    obtain ⟨as, ra⟩ := reads_repL s ok ds e1 rl rv
    exact ⟨as, .tuple g1 g2 g4 (by simpa using ra)⟩
  | .lst ds, _, _, _, e, r, ru => by
    obtain ⟨ps, e1, rfl⟩ := Option.map_eq_some_iff.mp e
    obtain ⟨a, vs, rfl, q, rl⟩ := r
    obtain ⟨hl, its, n, rv, g⟩ := ok a _ (s a _ q)
    obtain rfl : _ = Value.ref a := ru
    obtain ⟨as, ra⟩ := reads_repL s ok ds e1 rl rv
    exact ⟨_, .list g rfl rfl (by simpa using ra)⟩
  | .ty _, _, _, _, e, _, _ => by cases e
  | .dct _ _, _, _, _, e, _, _ => by cases e
  | .tdc _ _, _, _, _, e, _, _ => by cases e
  | .obj _ _ _, _, _, _, e, _, _ => by cases e
  | .glo _, _, _, _, e, _, _ => by cases e
  | .hand, _, _, _, e, _, _ => by cases e
theorem reads_repL (s : Sub F H) (ok : HOk P w H h) : ∀ (ds : List D) {ps : List PyData} {vs : List V} {us : List Value}, pyDs ds = some ps → RepL K mg M F ds vs → Vals vs us → ∃ as, ReadsAll h us ps as
  | [], _, _, _, e, r, ru => by
    cases e; cases (show _ = ([] : List V) from r); cases ru; exact ⟨_, .nil⟩
  | d :: ds, _, _, _, e, r, ru => by
    obtain ⟨p, e1, e⟩ := Option.bind_eq_some_iff.mp e
    obtain ⟨ps, e2, rfl⟩ := Option.map_eq_some_iff.mp e
    obtain ⟨x, xs, rfl, r1, r2⟩ := r
    cases ru with
    | cons q1 q2 =>
      obtain ⟨as, h1⟩ := reads_rep s ok d e1 r1 q1
      obtain ⟨bs, h2⟩ := reads_repL s ok ds e2 r2 q2
      exact ⟨_, .cons h1 h2⟩
end
theorem reads_arep (s : Sub F H) (ok : HOk P w H h) {d : D} {p : PyData} {v : V} {u : Value} (e : pyD d = some p) (r : ARep K mg M F H d v) (ru : RelV v u) : ∃ as, Reads h u p as := by
  cases d
  case lst ds =>
    obtain ⟨ps, e1, rfl⟩ := Option.map_eq_some_iff.mp e
    obtain ⟨a, vs, rfl, _, q, rl⟩ := r
    obtain ⟨hl, its, n, rv, g⟩ := ok a _ q
    obtain rfl : _ = Value.ref a := ru
    obtain ⟨as, ra⟩ := reads_repL s ok ds e1 rl rv
    exact ⟨_, .list g rfl rfl (by simpa using ra)⟩
  all_goals first
    | (exact reads_rep (K := K) (mg := mg) (M := M) s ok _ e r ru)
    | cases e
end
section
variable {M : Am} {X : Cx}
theorem cd_repr (hu : X.A.units + 65 < cLine) (hg : X.A.guards = some []) : CallR X (.builtin "repr") (rDL M X reprD) := by
  intro pins s σ H xs us Q I r ⟨F, ds, dz, g, rl, e, q⟩
  unfold reprD at e
  split at e
  · split at e
    · rename_i p ep

      obtain ⟨c, e⟩ := e
      subst e
      obtain ⟨x, rfl, r1⟩ := rl.one
      obtain ⟨u, rfl, ru⟩ := Vals.one r
      obtain ⟨as, R⟩ := reads_arep g.inn I.hok ep r1 ru
      simp only [rpOk, Bool.and_eq_true, decide_eq_true_eq] at c
      obtain ⟨⟨⟨c1, c2⟩, c3⟩, c4⟩ := c
      have hz := PyData.shown_fits_bulk (B := 13) (by decide) (by decide) c3 c4
      have nd := pyD_nodict _ ep
      have fin : ∀ h' t tk, (∀ b o, s.heap.get? b = some o → h'.get? b = some o) → EP X pins σ Q (.str p.shown t) { s with heap := h', toks := tk } := fun h' t tk hk =>
        ⟨.str _, H, I.kept hk, ⟨t, rfl⟩, q _ H F g rfl⟩
      cases R with
      | none => exact PySem.P.repr_of_none (fin s.heap _ _ fun _ _ e => e)
      | bool b => exact PySem.P.repr_of_bool (fin s.heap _ _ fun _ _ e => e)
      | int i t => exact PySem.P.repr_of_int (by simpa [PyData.showable] using c1) (fin s.heap _ _ fun _ _ e => e)
      | str y t => exact PySem.P.repr_of_str (fin s.heap _ _ fun _ _ e => e) (by simpa only [PyData.shown] using hz)
      | list h1 h2 h3 h4 => exact repr_of_reads' (.list h1 h2 h3 h4) c1 (PyData.noDict_hsm nd) hg (by omega) (fun _ _ e => e) fin hz
      | tuple h1 h2 h3 h4 => exact repr_of_reads' (.tuple h1 h2 h3 h4) c1 (PyData.noDict_hsm nd) hg (by omega) (fun _ _ e => e) fin hz
      | dict h1 h2 h3 h4 h5 => cases nd
    · exact e.elim
  · exact e.elim
end
end PL
set_option Elab.async false
set_option linter.all false
set_option maxRecDepth 100000
namespace PL
open PySem PySem.Spec PyProof.Rows L2

/-! ### list(zip(*rows)) -/
def ItsAt (h : Heap) (k : Nat) : List Addr → List (Addr × Array Value) → Prop
  | [], [] => True
  | i :: is, l :: ls => h.IsTupleIter i l.1 k ∧ h.IsTuple l.1 l.2 ∧ ItsAt h k is ls
  | _, _ => False
theorem ItsAt.at {h h' : Heap} {k : Nat} : ∀ {is : List Addr} {ls : List (Addr × Array Value)}, ItsAt h k is ls → (∀ i ∈ is, ∀ o, h.get? i = some o → h'.get? i = some o) → (∀ l ∈ ls, ∀ o, h.get? l.1 = some o → h'.get? l.1 = some o) → ItsAt h' k is ls
  | [], [], _, _, _ => trivial
  | i :: is, l :: ls, ⟨⟨o, a, b⟩, ⟨o2, c, d⟩, q⟩, h1, h2 => ⟨⟨o, h1 _ (List.mem_cons_self ..) _ a, b⟩, ⟨o2, h2 _ (List.mem_cons_self ..) _ c, d⟩, ItsAt.at q (fun x hx => h1 x (List.mem_cons_of_mem _ hx)) fun x hx => h2 x (List.mem_cons_of_mem _ hx)⟩
  | [], _ :: _, q, _, _ => q.elim
  | _ :: _, [], q, _, _ => q.elim
theorem ItsAt.len {h : Heap} {k : Nat} : ∀ {is : List Addr} {ls : List (Addr × Array Value)}, ItsAt h k is ls → is.length = ls.length
  | [], [], _ => rfl
  | i :: is, l :: ls, ⟨_, _, q⟩ => by simp [q.len]
  | [], _ :: _, q => q.elim
  | _ :: _, [], q => q.elim
theorem ItsAt.alive {h : Heap} {k : Nat} : ∀ {is : List Addr} {ls : List (Addr × Array Value)}, ItsAt h k is ls → ∀ i ∈ is, ∃ o, h.get? i = some o ∧ o.cls = .type "tuple_iterator"
  | i :: is, l :: ls, ⟨⟨o, a, b, _⟩, _, q⟩, j, hj => by
    rcases List.mem_cons.mp hj with rfl | hj
    · exact ⟨o, a, b⟩
    · exact q.alive j hj
  | [], _, _, _, hj => by simp at hj
/-- the k-th of each row -/
def colV (ls : List (Addr × Array Value)) (k : Nat) : List Value := ls.map fun l => l.2.getD k .none
section
variable {prog : Program} {w : World} {A : Around} {E : Value → Shared → Prop}
/-- the draws of one turn -/
theorem zl2 {R : Type} {no : R} {body : Value → R × Array Value → Sem (ForInStep (R × Array Value))} (hb : ∀ (i : Addr) (acc : Array Value) (s : Shared) (Q : ForInStep (R × Array Value) → Shared → Prop),
      wpAny (model prog w) A (Builtin.SmallTypes.nextOf (.ref i)) (fun y s' => Q (.yield (no, acc.push y)) s') E s → wpAny (model prog w) A (body (.ref i) (no, acc)) Q E s) {k : Nat} :
    ∀ (is : List Addr) (ls : List (Addr × Array Value)) (acc : Array Value) (s : Shared) (Q : R × Array Value → Shared → Prop), ItsAt s.heap k is ls → is.Nodup → (∀ l ∈ ls, l.1 ∉ is) → (∀ l ∈ ls, k < l.2.size) →
      (∀ h', ItsAt h' (k + 1) is ls → h'.objs.size = s.heap.objs.size → (∀ b o, b ∉ is → s.heap.get? b = some o → h'.get? b = some o) → Q (no, acc ++ (colV ls k).toArray) { s with heap := h' }) →
      wpAny (model prog w) A (forIn (is.map Value.ref) (no, acc) body) Q E s
  | [], [], acc, s, Q, _, _, _, _, h => by
    simp only [List.map_nil, List.forIn_nil]
    refine wpAny_pure ?_
    have := h s.heap trivial rfl fun b o _ e => e
    simpa [colV] using this
  | [], _ :: _, _, _, _, q, _, _, _, _ => q.elim
  | _ :: _, [], _, _, _, q, _, _, _, _ => q.elim
  | i :: is, l :: ls, acc, s, Q, ⟨q1, q2, q3⟩, nd, off, hk, h => by
    simp only [List.map_cons, List.forIn_cons]
    have hx : l.2[k]? = some (l.2.getD k .none) := by
      have := hk l (List.mem_cons_self ..)
      simp [Array.getD, this]
    refine wpAny_bind (hb i acc s _ (RZ.nextOf_tuple_item q1 q2 hx fun h2 g1 g2 => ?_))
    have ni : i ∉ is := (List.nodup_cons.mp nd).1
    have o2 : ∀ l' ∈ ls, l'.1 ≠ i := fun l' hl' z => off l' (List.mem_cons_of_mem _ hl') (by rw [z]; exact List.mem_cons_self ..)
    refine zl2 hb is ls (acc.push (l.2.getD k .none)) { s with heap := h2 } Q (q3.at (fun j hj o e => ?_) fun l' hl' o e => ?_) (List.nodup_cons.mp nd).2 (fun l' hl' z => off l' (List.mem_cons_of_mem _ hl') (List.mem_cons_of_mem _ z)) (fun l' hl' => hk l' (List.mem_cons_of_mem _ hl')) fun h3 a1 a2 a3 => ?_
    · exact (g2.2 j fun z => ni (by rw [← z]; exact hj)).trans e
    · exact (g2.2 l'.1 (o2 l' hl')).trans e
    · obtain ⟨o, b1, b2⟩ := g1
      obtain ⟨oo, c1, c2⟩ := q2
      have hl1 : l.1 ∉ i :: is := off l (List.mem_cons_self ..)
      have := h h3 ⟨⟨o, a3 i _ ni b1, b2⟩, ⟨oo, a3 l.1 _ (fun z => hl1 (List.mem_cons_of_mem _ z)) ((g2.2 l.1 fun z => hl1 (by rw [z]; exact List.mem_cons_self ..)).trans c1), c2⟩, a1⟩ (a2.trans g2.1) fun b o hb e => a3 b o (fun z => hb (List.mem_cons_of_mem _ z)) ((g2.2 b fun z => hb (by rw [z]; exact List.mem_cons_self ..)).trans e)
      simpa [colV] using this
/-- the draws of the first turn -/
theorem zl1 {R : Type} {no : R} {TO : Addr} {body : Value × Nat → R × Unit → Sem (ForInStep (R × Unit))} (hb : ∀ (i : Addr) (j : Nat) (s : Shared) (Q : ForInStep (R × Unit) → Shared → Prop),
      wpAny (model prog w) A (Builtin.SmallTypes.nextOf (.ref i)) (fun y s' => wpAny (model prog w) A (seqItems? (.ref TO)) (fun kp s2 => ∃ kept, kp = some kept ∧ wpAny (model prog w) A (updateSeq TO (fun z => z.setIfInBounds j y)) (fun _ s3 => Q (.yield (no, ())) s3) E s2) E s') (fun _ _ => False) s →
      wpAny (model prog w) A (body (.ref i, j) (no, ())) Q E s) {k : Nat} :
    ∀ (is : List Addr) (ls : List (Addr × Array Value)) (pre post : List Value) (s : Shared) (Q : R × Unit → Shared → Prop), ItsAt s.heap k is ls → is.Nodup → (∀ l ∈ ls, l.1 ∉ is) → (∀ l ∈ ls, k < l.2.size) → TO ∉ is → (∀ l ∈ ls, l.1 ≠ TO) → post.length = is.length → pre.length + is.length ≤ 1000 →
      (∃ c, s.heap.get? TO = some { cls := .type "tuple", data := .seq (pre ++ post).toArray c }) →
      (∀ h', ItsAt h' (k + 1) is ls → h'.objs.size = s.heap.objs.size → (∃ c, h'.get? TO = some { cls := .type "tuple", data := .seq (pre ++ colV ls k).toArray c }) → (∀ b o, b ∉ is → b ≠ TO → s.heap.get? b = some o → h'.get? b = some o) → Q (no, ()) { s with heap := h' }) →
      wpAny (model prog w) A (forIn ((is.map Value.ref).zipIdx pre.length) (no, ()) body) Q E s
  | [], [], pre, post, s, Q, _, _, _, _, _, _, hp, _, hT, h => by
    simp only [List.map_nil, List.zipIdx_nil, List.forIn_nil]
    refine wpAny_pure ?_
    have e : post = [] := List.length_eq_zero_iff.mp hp
    subst e
    exact h s.heap trivial rfl (by simpa [colV] using hT) fun b o _ _ e => e
  | [], _ :: _, _, _, _, _, q, _, _, _, _, _, _, _, _, _ => q.elim
  | _ :: _, [], _, _, _, _, q, _, _, _, _, _, _, _, _, _ => q.elim
  | i :: is, l :: ls, pre, [], s, Q, _, _, _, _, _, _, hp, _, _, _ => by simp at hp
  | i :: is, l :: ls, pre, p0 :: post, s, Q, ⟨q1, q2, q3⟩, nd, off, hk, nT, lT, hp, hq, hT, h => by
    simp only [List.map_cons, List.zipIdx_cons, List.forIn_cons]
    have hx : l.2[k]? = some (l.2.getD k .none) := by
      have := hk l (List.mem_cons_self ..)
      simp [Array.getD, this]
    refine wpAny_bind (hb i pre.length s _ (RZ.nextOf_tuple_item q1 q2 hx fun h2 g1 g2 => ?_))
    have ni : i ∉ is := (List.nodup_cons.mp nd).1
    have o2 : ∀ l' ∈ ls, l'.1 ≠ i := fun l' hl' z => off l' (List.mem_cons_of_mem _ hl') (by rw [z]; exact List.mem_cons_self ..)
    have iT : TO ≠ i := fun z => nT (by rw [z]; exact List.mem_cons_self ..)
    obtain ⟨c, hT⟩ := hT
    have hT2 : h2.get? TO = some { cls := .type "tuple", data := .seq (pre ++ p0 :: post).toArray c } := (g2.2 TO iT).trans hT
    refine wpAny_seqItems hT2 rfl ⟨_, rfl, ?_⟩
    have hln : (pre ++ p0 :: post).length ≤ 1000 := by
      rw [List.length_append, hp]; exact hq
    refine wpAny_updateSeq hT2 rfl ?_ (by rw [sizeLine_eq]; simp at hln ⊢; omega) (by rw [sizeLine_eq]; simp at hln ⊢; omega)
    have hT3 := Heap.get?_update_self (Obj.mapSeq fun z => z.setIfInBounds pre.length (l.2.getD k .none)) hT2 rfl
    have e1 : ((pre ++ p0 :: post).toArray.setIfInBounds pre.length (l.2.getD k .none)) = ((pre ++ [l.2.getD k .none]) ++ post).toArray := by
      simp
    have oth : ∀ b o, b ≠ TO → h2.get? b = some o → (h2.update TO (Obj.mapSeq fun z => z.setIfInBounds pre.length (l.2.getD k .none))).get? b = some o := fun b o hb e => (Heap.get?_update_other _ _ (Ne.symm hb)).trans e
    have hT4 : ∃ c, (h2.update TO (Obj.mapSeq fun z => z.setIfInBounds pre.length (l.2.getD k .none))).get? TO = some { cls := .type "tuple", data := .seq ((pre ++ [l.2.getD k .none]) ++ post).toArray c } := by
      rw [← e1]; exact ⟨_, hT3⟩
    have el : pre.length + 1 = (pre ++ [l.2.getD k .none]).length := by rw [List.length_append]; rfl
    show wpAny _ _ (forIn ((List.map Value.ref is).zipIdx (pre.length + 1)) (no, ()) _) _ _ _
    rw [el]
    refine zl1 hb is ls (pre ++ [l.2.getD k .none]) post { s with heap := h2.update TO (Obj.mapSeq fun z => z.setIfInBounds pre.length (l.2.getD k .none)) } Q (q3.at (fun j hj o e => ?_) fun l' hl' o e => ?_) (List.nodup_cons.mp nd).2 (fun l' hl' z => off l' (List.mem_cons_of_mem _ hl') (List.mem_cons_of_mem _ z)) (fun l' hl' => hk l' (List.mem_cons_of_mem _ hl')) (fun z => nT (List.mem_cons_of_mem _ z)) (fun l' hl' => lT l' (List.mem_cons_of_mem _ hl')) (by simpa using hp) (by simp at hq ⊢; omega) hT4 fun h3 a1 a2 a3 a4 => ?_
    · exact oth _ _ (fun z => nT (by rw [← z]; exact List.mem_cons_of_mem _ hj)) ((g2.2 j fun z => ni (by rw [← z]; exact hj)).trans e)
    · exact oth _ _ (lT l' (List.mem_cons_of_mem _ hl')) ((g2.2 l'.1 (o2 l' hl')).trans e)
    · obtain ⟨o, b1, b2⟩ := g1
      obtain ⟨oo, c1, c2⟩ := q2
      have hl1 : l.1 ∉ i :: is := off l (List.mem_cons_self ..)
      have up : ∀ b o, b ∉ i :: is → b ≠ TO → s.heap.get? b = some o → h3.get? b = some o := fun b o hb ht e => a4 b o (fun z => hb (List.mem_cons_of_mem _ z)) ht (oth _ _ ht ((g2.2 b fun z => hb (by rw [z]; exact List.mem_cons_self ..)).trans e))
      refine h h3 ⟨⟨o, a4 i _ ni (Ne.symm iT) (oth _ _ (Ne.symm iT) b1), b2⟩, ⟨oo, up l.1 _ hl1 (lT l (List.mem_cons_self ..)) c1, c2⟩, a1⟩ (a2.trans ?_) (by simpa [colV] using a3) up
      rw [← g2.1]
      exact Heap.size_update ..
structure ZSep (z TI TO : Addr) (is : List Addr) (ls : List (Addr × Array Value)) : Prop where
  nd : (z :: TO :: is).Nodup
  ti : TI ∉ z :: TO :: is
  off : ∀ l ∈ ls, l.1 ∉ z :: TO :: is
  ne : is ≠ []
  few : is.length ≤ 1000
variable {z TI TO : Addr} {is : List Addr} {ls : List (Addr × Array Value)} {s : Shared} {k : Nat}
theorem zn1_core (S : ZSep z TI TO is ls) (hz : IsZip s.heap z TI TO .none) (ht : s.heap.get? TI = some { cls := .type "tuple", data := .seq (is.map Value.ref).toArray })
    {c : Nat} {kept : List Value} (hk : kept.length = is.length) (hT : s.heap.get? TO = some { cls := .type "tuple", data := .seq kept.toArray c }) (hi : ItsAt s.heap k is ls) (hr : ∀ l ∈ ls, k < l.2.size) {Q : Value → Shared → Prop}
    (h : ∀ h', IsZipHeld h' z TI TO s.heap.objs.size false → ItsAt h' (k + 1) is ls → h'.objs.size = s.heap.objs.size + 1 → h'.get? s.heap.objs.size = some { cls := .type "tuple", data := .seq (colV ls k).toArray } →
      (∀ b o, b ∉ z :: TO :: is → s.heap.get? b = some o → h'.get? b = some o) → Q (.ref s.heap.objs.size) { s with heap := h' }) :
    wpAny (model prog w) A (Builtin.«zip.__next__» ⟨[.ref z], []⟩) (fun fin s' => ∃ v, fin = .done (.ret v) ∧ Q v s') E s := by
  have zT : z ≠ TO := fun q => (List.nodup_cons.mp S.nd).1 (by rw [q]; exact List.mem_cons_self ..)
  have zi : z ∉ is := fun q => (List.nodup_cons.mp S.nd).1 (List.mem_cons_of_mem _ q)
  have Ti : TO ∉ is := (List.nodup_cons.mp (List.nodup_cons.mp S.nd).2).1
  have ndi : is.Nodup := (List.nodup_cons.mp (List.nodup_cons.mp S.nd).2).2
  show wpAny _ _ (field (.ref z) 2 >>= _) _ _ _
  refine wpAny_bind (wpAny_field hz rfl (x := .bool false) rfl ?_)
  show wpAny _ _ (field (.ref z) 3 >>= _) _ _ _
  refine wpAny_bind (wpAny_field hz rfl (x := .ref TI) rfl ?_)
  refine wpAny_bind (wpAny_seqItems ht rfl ?_)
  have ie : ((is.map Value.ref).toArray.isEmpty) = false := by
    have := S.ne
    cases is with
    | nil => exact absurd rfl this
    | cons a b => simp
  simp only [ie]
  show wpAny _ _ (Builtin.SmallTypes.ownedTupleIsFree (.ref z) >>= _) _ _ _
  refine wpAny_bind ?_
  unfold Builtin.SmallTypes.ownedTupleIsFree
  refine wpAny_bind (wpAny_field hz rfl (x := .none) rfl (wpAny_pure ?_))
  simp only [if_true]
  refine wpAny_bind (wpAny_rule ?_)
  refine wpAny_bind (wpAny_field hz rfl (x := .ref TO) rfl ?_)
  refine wpAny_bind (wpAny_setField_rec hz (by simp) fun h₁ hz₁ hs₁ => ?_)
  replace hz₁ : IsZip h₁ z TI TO .ellipsis := hz₁
  have hT1 : h₁.get? TO = some { cls := .type "tuple", data := .seq ([] ++ kept).toArray c } := (hs₁.2 _ (Ne.symm zT)).trans hT
  refine wpAny_bind (zl1 (k := k) (TO := TO) (no := (none : Option Fin)) (fun i j s Q hq => by
    refine wpAny_bind (wpAny_onRaise ?_)
    show wpAny _ _ (Builtin.SmallTypes.nextOf (.ref i) >>= _) _ _ _
    refine wpAny_bind (wpAny_mono hq (fun y s2 hy => wpAny_pure (wpAny_bind (wpAny_mono hy (fun kp s3 hz => ?_) fun _ _ e => e))) fun _ _ e => e.elim)
    obtain ⟨kept, rfl, hz⟩ := hz
    exact wpAny_bind (wpAny_mono hz (fun _ s4 hw => wpAny_bind (wpAny_letGo (wpAny_pure hw))) fun _ _ e => e)) is ls [] kept { s with heap := h₁ } _ (hi.at (fun j hj o e => ?_) fun l hl o e => ?_) ndi (fun l hl q => S.off l hl (List.mem_cons_of_mem _ (List.mem_cons_of_mem _ q))) hr Ti (fun l hl q => S.off l hl (by rw [q]; exact List.mem_cons_of_mem _ (List.mem_cons_self ..))) hk (by simpa using S.few) ⟨c, hT1⟩ fun h₂ a1 a2 a3 a4 => ?_)
  · exact (hs₁.2 _ fun q => zi (by rw [← q]; exact hj)).trans e
  · exact (hs₁.2 _ fun q => S.off l hl (by rw [q]; exact List.mem_cons_self ..)).trans e
  obtain ⟨c2, a3⟩ := a3
  refine wpAny_bind (wpAny_seqItems a3 rfl ?_)
  have hcl : (colV ls k).length ≤ 1000 := by
    have := hi.len
    simp only [colV, List.length_map]
    have := S.few
    omega
  refine wpAny_bind (wpAny_newTuple ?_ (by rw [sizeLine_eq]; simp; omega))
  have hz2 : IsZip h₂ z TI TO .ellipsis := a4 z _ zi zT hz₁
  have zlt : z < h₂.objs.size := Heap.lt_size hz2
  show wpAny _ _ (Builtin.SmallTypes.ownedTupleHandOut (.ref z) (.ref h₂.objs.size) >>= _) _ _ _
  refine wpAny_bind ?_
  unfold Builtin.SmallTypes.ownedTupleHandOut
  have hz₆ : IsZip (h₂.push { cls := .type "tuple", data := .seq ([] ++ colV ls k).toArray.toList.toArray }) z TI TO .ellipsis := Heap.get?_push_of_some _ hz2
  refine wpAny_bind (wpAny_setField_rec hz₆ (by simp) fun h₇ hz₇ hs₇ => ?_)
  replace hz₇ : IsZip h₇ z TI TO (rawInt h₂.objs.size) := hz₇
  refine wpAny_setField_rec hz₇ (by simp) fun h₈ hz₈ hs₈ => ?_
  replace hz₈ : IsZipHeld h₈ z TI TO h₂.objs.size false := hz₈
  have up : ∀ b o, b ≠ z → h₂.get? b = some o → h₈.get? b = some o := fun b o hb e => (hs₈.2 b hb).trans ((hs₇.2 b hb).trans (Heap.get?_push_of_some _ e))
  have hT8 : h₈.get? h₂.objs.size = some { cls := .type "tuple", data := .seq (colV ls k).toArray } := by
    refine (hs₈.2 _ (Nat.ne_of_gt zlt)).trans ((hs₇.2 _ (Nat.ne_of_gt zlt)).trans ?_)
    have := Heap.get?_push_size h₂ (o := { cls := .type "tuple", data := .seq ([] ++ colV ls k).toArray.toList.toArray }) rfl
    simpa using this
  have sz : h₂.objs.size = s.heap.objs.size := a2.trans hs₁.1
  have s8 : h₈.objs.size = s.heap.objs.size + 1 := by rw [hs₈.1, hs₇.1, Heap.size_push, sz]
  rw [sz] at hz₈ hT8
  refine wpAny_pure ⟨_, rfl, ?_⟩
  show Q (.ref h₂.objs.size) _
  rw [sz]
  refine h h₈ hz₈ (a1.at (fun j hj o e => up j o (fun q => zi (by rw [← q]; exact hj)) e) fun l hl o e => up _ o (fun q => S.off l hl (by rw [q]; exact List.mem_cons_self ..)) e) s8 hT8 fun b o hb e => ?_
  have b1 : b ≠ z := fun q => hb (by rw [q]; exact List.mem_cons_self ..)
  have b2 : b ≠ TO := fun q => hb (by rw [q]; exact List.mem_cons_of_mem _ (List.mem_cons_self ..))
  exact up b o b1 (a4 b o (fun q => hb (List.mem_cons_of_mem _ (List.mem_cons_of_mem _ q))) b2 ((hs₁.2 b b1).trans e))
theorem zn2_core {T0 : Addr} {f : Bool} {o0 : Obj} (S : ZSep z TI TO is ls) (hz : IsZipHeld s.heap z TI TO T0 f) (h0 : s.heap.get? T0 = some o0) (ht : s.heap.get? TI = some { cls := .type "tuple", data := .seq (is.map Value.ref).toArray })
    (hi : ItsAt s.heap k is ls) (hr : ∀ l ∈ ls, k < l.2.size) {Q : Value → Shared → Prop}
    (h : ∀ h', IsZipHeld h' z TI TO T0 true → ItsAt h' (k + 1) is ls → h'.objs.size = s.heap.objs.size + 1 → h'.get? s.heap.objs.size = some { cls := .type "tuple", data := .seq (colV ls k).toArray } →
      (∀ b o, b ∉ z :: TO :: is → s.heap.get? b = some o → h'.get? b = some o) → Q (.ref s.heap.objs.size) { s with heap := h' }) :
    wpAny (model prog w) A (Builtin.«zip.__next__» ⟨[.ref z], []⟩) (fun fin s' => ∃ v, fin = .done (.ret v) ∧ Q v s') E s := by
  have zi : z ∉ is := fun q => (List.nodup_cons.mp S.nd).1 (List.mem_cons_of_mem _ q)
  have ndi : is.Nodup := (List.nodup_cons.mp (List.nodup_cons.mp S.nd).2).2
  show wpAny _ _ (field (.ref z) 2 >>= _) _ _ _
  refine wpAny_bind (wpAny_field hz rfl (x := .bool false) rfl ?_)
  show wpAny _ _ (field (.ref z) 3 >>= _) _ _ _
  refine wpAny_bind (wpAny_field hz rfl (x := .ref TI) rfl ?_)
  refine wpAny_bind (wpAny_seqItems ht rfl ?_)
  have ie : ((is.map Value.ref).toArray.isEmpty) = false := by
    have := S.ne
    cases is with
    | nil => exact absurd rfl this
    | cons a b => simp
  simp only [ie]
  show wpAny _ _ (Builtin.SmallTypes.ownedTupleIsFree (.ref z) >>= _) _ _ _
  refine wpAny_bind (wpAny_tupleHeld_zip hz h0 fun h₁ hz₁ hs₁ => ?_)
  simp only [Bool.false_eq_true, if_false]
  rw [List.forIn_toArray]
  refine wpAny_bind (zl2 (k := k) (no := (none : Option Fin)) (fun i acc s Q hq => by
    refine wpAny_bind (wpAny_holding ?_)
    show wpAny _ _ (Builtin.SmallTypes.nextOf (.ref i) >>= _) _ _ _
    exact wpAny_bind (wpAny_mono hq (fun y s2 hy => wpAny_pure (wpAny_pure hy)) fun _ _ e => e)) is ls #[] { s with heap := h₁ } _ (hi.at (fun j hj o e => ?_) fun l hl o e => ?_) ndi (fun l hl q => S.off l hl (List.mem_cons_of_mem _ (List.mem_cons_of_mem _ q))) hr fun h₂ a1 a2 a4 => ?_)
  · exact (hs₁.2 _ fun q => zi (by rw [← q]; exact hj)).trans e
  · exact (hs₁.2 _ fun q => S.off l hl (by rw [q]; exact List.mem_cons_self ..)).trans e
  have hcl : (colV ls k).length ≤ 1000 := by
    have := hi.len
    simp only [colV, List.length_map]
    have := S.few
    omega
  refine wpAny_bind (wpAny_newTuple ?_ (by rw [sizeLine_eq]; simp; omega))
  have sz : h₂.objs.size = s.heap.objs.size := a2.trans hs₁.1
  refine wpAny_pure ⟨_, rfl, ?_⟩
  show Q (.ref h₂.objs.size) _
  rw [sz]
  have up : ∀ b o, h₂.get? b = some o → (h₂.push { cls := .type "tuple", data := .seq (#[] ++ (colV ls k).toArray).toList.toArray }).get? b = some o := fun b o e => Heap.get?_push_of_some _ e
  refine h _ (up _ _ (a4 z _ zi hz₁)) (a1.at (fun j hj o e => up _ _ e) fun l hl o e => up _ _ e) (by rw [Heap.size_push, sz]) ?_ fun b o hb e => up _ _ (a4 b o (fun q => hb (List.mem_cons_of_mem _ (List.mem_cons_of_mem _ q))) ((hs₁.2 b fun q => hb (by rw [q]; exact List.mem_cons_self ..)).trans e))
  have := Heap.get?_push_size h₂ (o := { cls := .type "tuple", data := .seq (#[] ++ (colV ls k).toArray).toList.toArray }) rfl
  rw [sz] at this
  simpa using this
theorem zn3_core {T0 : Addr} {f : Bool} {o0 : Obj} (hh : A.handled = none) (S : ZSep z TI TO is ls) (hz : IsZipHeld s.heap z TI TO T0 f) (h0 : s.heap.get? T0 = some o0) (ht : s.heap.get? TI = some { cls := .type "tuple", data := .seq (is.map Value.ref).toArray })
    (hi : ItsAt s.heap k is ls) (hr : ∀ l ∈ ls, l.2.size = k) {Q : Fin → Shared → Prop}
    (h : ∀ h' e, (∃ o, h'.get? e = some o ∧ o.cls = .type "StopIteration") → (∀ b o, b ∉ z :: TO :: is → s.heap.get? b = some o → h'.get? b = some o) → E (.ref e) { s with heap := h' }) :
    wpAny (model prog w) A (Builtin.«zip.__next__» ⟨[.ref z], []⟩) Q E s := by
  have zi : z ∉ is := fun q => (List.nodup_cons.mp S.nd).1 (List.mem_cons_of_mem _ q)
  show wpAny _ _ (field (.ref z) 2 >>= _) _ _ _
  refine wpAny_bind (wpAny_field hz rfl (x := .bool false) rfl ?_)
  show wpAny _ _ (field (.ref z) 3 >>= _) _ _ _
  refine wpAny_bind (wpAny_field hz rfl (x := .ref TI) rfl ?_)
  refine wpAny_bind (wpAny_seqItems ht rfl ?_)
  have ie : ((is.map Value.ref).toArray.isEmpty) = false := by
    have := S.ne
    cases is with
    | nil => exact absurd rfl this
    | cons a b => simp
  simp only [ie]
  show wpAny _ _ (Builtin.SmallTypes.ownedTupleIsFree (.ref z) >>= _) _ _ _
  refine wpAny_bind (wpAny_tupleHeld_zip hz h0 fun h₁ hz₁ hs₁ => ?_)
  simp only [Bool.false_eq_true, if_false]
  rw [List.forIn_toArray]
  match is, ls, hi, S, zi, hr with
  | [], _, _, S, _, _ => exact absurd rfl S.ne
  | i :: is, [], hi, _, _, _ => exact hi.elim
  | i :: is, l :: ls, ⟨⟨oi, i1, i2⟩, ⟨ol, l1, l2⟩, _⟩, S, zi, hr =>
    simp only [List.map_cons, List.forIn_cons]
    refine wpAny_bind (wpAny_bind (wpAny_bind (wpAny_holding ?_)))
    show wpAny _ _ (Builtin.SmallTypes.nextOf (.ref i) >>= _) _ _ _
    have iz : i ≠ z := fun q => zi (by rw [← q]; exact List.mem_cons_self ..)
    have lz : l.1 ≠ z := fun q => S.off l (List.mem_cons_self ..) (by rw [q]; exact List.mem_cons_self ..)
    refine wpAny_bind (RZ.nextOf_tuple_end hh ⟨oi, (hs₁.2 i iz).trans i1, i2⟩ ⟨ol, (hs₁.2 _ lz).trans l1, l2⟩ (by have := hr l (List.mem_cons_self ..); rw [Array.getElem?_eq_none_iff]; omega) fun h₂ e g1 g2 => ?_)
    exact h h₂ e g2 fun b o hb he => g1 b o (fun q => hb (by rw [q]; exact List.mem_cons_of_mem _ (List.mem_cons_of_mem _ (List.mem_cons_self ..)))) ((hs₁.2 b fun q => hb (by rw [q]; exact List.mem_cons_self ..)).trans he)
end
end PL
set_option Elab.async false
set_option linter.all false
set_option maxRecDepth 100000
namespace PL
open PySem PySem.Spec PyProof.Rows L2

theorem newCall_zip (u : Value) (us : List Value) : checkBuiltinCall "zip.__new__" ⟨.type "zip" :: u :: us, []⟩ = pure () := by kernel_rfl
theorem typeCall_zip (us : List Value) : checkTypeCall "zip" ⟨us, []⟩ = pure () := by kernel_rfl
theorem args_init (obj : Value) (us : List Value) : argsOk "object.__init__" ⟨obj :: us, []⟩ := by
  unfold argsOk; rw [signature?_of (id := "object.__init__") (n := ['_', '_', 't', 'i', 'n', 'i', '_', '_']) (o := ['t', 'c', 'e', 'j', 'b', 'o']) (by kernel_rfl) PySem.F.owner_object]; kernel_rfl
theorem zip_no_len : typeLookup (.type "zip") "__len__" = pure none := by rw [typeLookup_type, builtinLookup_eq_fast]; kernel_rfl
theorem zip_no_hint : typeLookup (.type "zip") "__length_hint__" = pure none := by rw [typeLookup_type, builtinLookup_eq_fast]; kernel_rfl
theorem its_new {A : Around} {prog w E} : ∀ (ls : List (Addr × Array Value)) (acc : Array Value) (s : Shared) (Q : Array Value → Shared → Prop), (∀ l ∈ ls, s.heap.IsTuple l.1 l.2) →
    (∀ h' is, ItsAt h' 0 is ls → is.Nodup → (∀ i ∈ is, s.heap.objs.size ≤ i) → (∀ b o, s.heap.get? b = some o → h'.get? b = some o) → s.heap.objs.size ≤ h'.objs.size → Q (acc ++ (is.map Value.ref).toArray) { s with heap := h' }) →
    wpAny (model prog w) A (forIn (ls.map fun l => Value.ref l.1) acc fun x its => holding its.toList (pyIter x) >>= fun it => pure (ForInStep.yield (its.push it))) Q E s
  | [], acc, s, Q, _, h => by
    simp only [List.map_nil, List.forIn_nil]
    refine wpAny_pure ?_
    have := h s.heap [] trivial List.nodup_nil (fun i hi => by simp at hi) (fun b o e => e) (Nat.le_refl _)
    simpa using this
  | l :: ls, acc, s, Q, ht, h => by
    simp only [List.map_cons, List.forIn_cons]
    refine wpAny_bind (wpAny_bind (wpAny_holding (wpAny_pyIter_tuple (ht l (List.mem_cons_self ..)) (wpAny_pure ?_))))
    refine its_new ls (acc.push _) _ Q (fun l' hl' => (ht l' (List.mem_cons_of_mem _ hl')).push _) fun h' is a1 a2 a3 a4 a5 => ?_
    have up : ∀ b o, s.heap.get? b = some o → h'.get? b = some o := fun b o e => a4 b o (Heap.get?_push_of_some _ e)
    have gi := a4 _ _ (Heap.get?_push_size s.heap (o := { cls := .type "tuple_iterator", data := .fields #[.ref l.1, .int 0 0] }) rfl)
    obtain ⟨o, c1, c2⟩ := ht l (List.mem_cons_self ..)
    have := h h' (s.heap.objs.size :: is) ⟨⟨_, gi, rfl, rfl⟩, ⟨o, up _ _ c1, c2⟩, a1⟩ (List.nodup_cons.mpr ⟨fun hm => ?_, a2⟩) (fun i hi => ?_) up (by rw [Heap.size_push] at a5; exact Nat.le_of_succ_le a5)
    · simpa using this
    · have := a3 _ hm
      rw [Heap.size_push] at this
      exact absurd this (Nat.not_succ_le_self _)
    · rcases List.mem_cons.mp hi with rfl | hi
      · exact Nat.le_refl _
      · have := a3 i hi
        rw [Heap.size_push] at this
        exact Nat.le_of_succ_le this

/-- what a new zip is -/
structure ZNew (h h' : Heap) (z TI TO : Addr) (is : List Addr) (ls : List (Addr × Array Value)) : Prop where
  sep : ZSep z TI TO is ls
  zip : IsZip h' z TI TO .none
  ti : h'.get? TI = some { cls := .type "tuple", data := .seq (is.map Value.ref).toArray }
  to : h'.get? TO = some { cls := .type "tuple", data := .seq (is.map fun _ => Value.none).toArray }
  its : ItsAt h' 0 is ls
  keep : ∀ b o, h.get? b = some o → h'.get? b = some o
  new : ∀ b ∈ z :: TO :: TI :: is, h.objs.size ≤ b
theorem meets_zip_newM (l : Addr × Array Value) (ls : List (Addr × Array Value)) : Meets (Builtin.«zip.__new__» ⟨.type "zip" :: .ref l.1 :: ls.map (fun l => .ref l.1), []⟩) (fun _ R s => (∀ l' ∈ l :: ls, s.heap.IsTuple l'.1 l'.2) ∧ (l :: ls).length ≤ 1000 ∧
    ∀ h' z TI TO is, ZNew s.heap h' z TI TO is (l :: ls) → R (.ok (.ret (.ref z))) { s with heap := h' }) :=
  .of_wp fun prog w A R s h => by
    obtain ⟨ht, hn, h⟩ := h
    unfold Builtin.«zip.__new__»
    have h1 : ∀ {E} (Q : Value × List Value → Shared → Prop), Q (.type "zip", .ref l.1 :: ls.map (fun l => .ref l.1)) s → wpAny (model prog w) A.in1 (Builtin.SmallTypes.newClass "zip" ⟨.type "zip" :: .ref l.1 :: ls.map (fun l => .ref l.1), []⟩) Q E s := fun Q h => by
      have hsub := sub_zip
      obtain ⟨hp, g, d, tk, os⟩ := s
      wp_walk
      exact h
    refine wpAny_bind (h1 _ ?_)
    simp only [List.length_nil, gt_iff_lt, Nat.not_lt_zero, if_false]
    unfold Builtin.SmallTypes.iterAll
    refine wpAny_bind (wpAny_bind (its_new (l :: ls) #[] s _ ht fun h2 is a1 a2 a3 a4 zs => wpAny_pure ?_))
    have hl := a1.len
    have e1 : (#[] ++ (List.map Value.ref is).toArray).toList = is.map Value.ref := by simp
    have e2 : (is.map Value.ref).map (fun _ => Value.none) = is.map fun _ => Value.none := by simp
    rw [e1]
    refine wpAny_bind (wpAny_newTuple ?_ (by rw [sizeLine_eq]; simp at hl hn ⊢; omega))
    refine wpAny_bind (wpAny_newTuple ?_ (by rw [sizeLine_eq]; simp at hl hn ⊢; omega))
    rw [e2]
    refine wpAny_bind ?_
    unfold Builtin.SmallTypes.newRecord
    refine wpAny_newObj_type ?_ (by show (5 : Nat) ≤ sizeLine + 2; rw [sizeLine_eq]; decide)
    refine wpAny_pure ⟨_, rfl, ?_⟩
    have z3 : (h2.push { cls := .type "tuple", data := .seq (is.map Value.ref).toArray }).objs.size = h2.objs.size + 1 := Heap.size_push ..
    have z4 : ((h2.push { cls := .type "tuple", data := .seq (is.map Value.ref).toArray }).push { cls := .type "tuple", data := .seq (is.map fun _ => Value.none).toArray }).objs.size = h2.objs.size + 2 := by rw [Heap.size_push, z3]
    have lt : ∀ i ∈ is, i < h2.objs.size := fun i hi => by
      obtain ⟨o, e, _⟩ := a1.alive i hi
      exact Heap.lt_size e
    refine h _ _ h2.objs.size (h2.push { cls := .type "tuple", data := .seq (is.map Value.ref).toArray }).objs.size is ⟨⟨?_, ?_, ?_, ?_, ?_⟩, Heap.get?_push_size _ rfl, Heap.get?_push_of_some _ (Heap.get?_push_of_some _ (Heap.get?_push_size _ rfl)), Heap.get?_push_of_some _ (Heap.get?_push_size _ rfl),
      a1.at (fun i _ o e => Heap.get?_push_of_some _ (Heap.get?_push_of_some _ (Heap.get?_push_of_some _ e))) (fun i _ o e => Heap.get?_push_of_some _ (Heap.get?_push_of_some _ (Heap.get?_push_of_some _ e))), fun b o e => Heap.get?_push_of_some _ (Heap.get?_push_of_some _ (Heap.get?_push_of_some _ (a4 b o e))), ?_⟩
    · rw [z4, z3]
      refine List.nodup_cons.mpr ⟨fun hm => ?_, List.nodup_cons.mpr ⟨fun hm => ?_, a2⟩⟩
      · rcases List.mem_cons.mp hm with e | hm
        · exact absurd e (Nat.ne_of_gt (Nat.lt_succ_self _))
        · exact absurd (lt _ hm) (Nat.not_lt_of_le (Nat.le_add_right _ 2))
      · exact absurd (lt _ hm) (Nat.not_lt_of_le (Nat.le_add_right _ 1))
    · rw [z4, z3]
      intro hm
      rcases List.mem_cons.mp hm with e | hm
      · exact absurd e (Nat.ne_of_lt (Nat.lt_add_of_pos_right (by decide)))
      · rcases List.mem_cons.mp hm with e | hm
        · exact absurd e (Nat.ne_of_lt (Nat.lt_succ_self _))
        · exact absurd (lt _ hm) (Nat.lt_irrefl _)
    · intro l' hl'
      rw [z4, z3]
      obtain ⟨o, e, _⟩ := ht l' hl'
      have l1 := Heap.lt_size e
      intro hm
      have l2 : s.heap.objs.size ≤ l'.1 := by
        rcases List.mem_cons.mp hm with e | hm
        · rw [e]; exact Nat.le_trans zs (Nat.le_add_right _ 2)
        · rcases List.mem_cons.mp hm with e | hm
          · rw [e]; exact Nat.le_trans zs (Nat.le_add_right _ 1)
          · exact a3 _ hm
      exact absurd l1 (Nat.not_lt_of_le l2)
    · intro z
      rw [z] at hl
      simp at hl
    · rw [hl]; exact hn
    · rw [z4, z3]
      intro b hb
      rcases List.mem_cons.mp hb with e | hb
      · rw [e]; exact Nat.le_trans zs (Nat.le_add_right _ 2)
      · rcases List.mem_cons.mp hb with e | hb
        · rw [e]; exact Nat.le_trans zs (Nat.le_add_right _ 1)
        · rcases List.mem_cons.mp hb with e | hb
          · rw [e]; exact zs
          · exact a3 _ hb
theorem call_zipM {prog : Program} {w : World} {A : Around} {E : Value → Shared → Prop} {s : Shared} {l : Addr × Array Value} {ls : List (Addr × Array Value)} {Q : Value → Shared → Prop} (ht : ∀ l' ∈ l :: ls, s.heap.IsTuple l'.1 l'.2) (hn : (l :: ls).length ≤ 1000)
    (h : ∀ h' z TI TO is, ZNew s.heap h' z TI TO is (l :: ls) → Q (.ref z) { s with heap := h' }) : wpAny (model prog w) A (call (.type "zip") (.ref l.1 :: ls.map (fun l => .ref l.1))) Q E s := by
  refine callType_new PySem.F.called_zip (by decide) (typeCall_zip _) (newCall_zip _ _) (fun obj => args_init obj _) PySem.F.entry_zip_new (meets_zip_newM l ls) ⟨ht, hn, fun h' z TI TO is N => ?_⟩
  show _ ∧ _
  exact ⟨⟨_, N.zip, rfl⟩, h h' z TI TO is N⟩
end PL
set_option Elab.async false
set_option linter.all false
set_option maxRecDepth 100000
namespace PL
open PySem PySem.Spec PyProof.Rows L2

/-! ### list(zip(*rows)): the walk -/
section
variable {prog : Program} {w : World} {A : Around} {E : Value → Shared → Prop} {z TI TO : Addr} {is : List Addr} {ls : List (Addr × Array Value)} {s : Shared} {k : Nat}
theorem pn1 (S : ZSep z TI TO is ls) (hz : IsZip s.heap z TI TO .none) (ht : s.heap.get? TI = some { cls := .type "tuple", data := .seq (is.map Value.ref).toArray })
    {c : Nat} {kept : List Value} (hk : kept.length = is.length) (hT : s.heap.get? TO = some { cls := .type "tuple", data := .seq kept.toArray c }) (hi : ItsAt s.heap k is ls) (hr : ∀ l ∈ ls, k < l.2.size) {Q : Option Value → Shared → Prop}
    (h : ∀ h', IsZipHeld h' z TI TO s.heap.objs.size false → ItsAt h' (k + 1) is ls → h'.objs.size = s.heap.objs.size + 1 → h'.get? s.heap.objs.size = some { cls := .type "tuple", data := .seq (colV ls k).toArray } →
      (∀ b o, b ∉ z :: TO :: is → s.heap.get? b = some o → h'.get? b = some o) → Q (some (.ref s.heap.objs.size)) { s with heap := h' }) : wpAny (model prog w) A (pyNext (.ref z)) Q E s := by
  have hT2 : s.TypeIs (.ref z) "zip" := ⟨_, hz, rfl⟩
  unfold pyNext
  exact wpAny_bind (wpAny_attempt (wpAny_callSpecial?_slot (name := Str.ofString "__next__") hT2 PySem.F.slot_zip_next
    (wpAny_call_entry PySem.F.slot_zip_next hT2 PySem.F.entry_zip_next (zn1_core S hz ht hk hT hi hr fun h' a1 a2 a3 a4 a5 => wpAny_pure (h h' a1 a2 a3 a4 a5)) (PySem.F.args_zip_next_1 _))))
theorem pn2 {T0 : Addr} {f : Bool} {o0 : Obj} (S : ZSep z TI TO is ls) (hz : IsZipHeld s.heap z TI TO T0 f) (h0 : s.heap.get? T0 = some o0) (ht : s.heap.get? TI = some { cls := .type "tuple", data := .seq (is.map Value.ref).toArray })
    (hi : ItsAt s.heap k is ls) (hr : ∀ l ∈ ls, k < l.2.size) {Q : Option Value → Shared → Prop}
    (h : ∀ h', IsZipHeld h' z TI TO T0 true → ItsAt h' (k + 1) is ls → h'.objs.size = s.heap.objs.size + 1 → h'.get? s.heap.objs.size = some { cls := .type "tuple", data := .seq (colV ls k).toArray } →
      (∀ b o, b ∉ z :: TO :: is → s.heap.get? b = some o → h'.get? b = some o) → Q (some (.ref s.heap.objs.size)) { s with heap := h' }) : wpAny (model prog w) A (pyNext (.ref z)) Q E s := by
  have hT2 : s.TypeIs (.ref z) "zip" := ⟨_, hz, rfl⟩
  unfold pyNext
  exact wpAny_bind (wpAny_attempt (wpAny_callSpecial?_slot (name := Str.ofString "__next__") hT2 PySem.F.slot_zip_next
    (wpAny_call_entry PySem.F.slot_zip_next hT2 PySem.F.entry_zip_next (zn2_core S hz h0 ht hi hr fun h' a1 a2 a3 a4 a5 => wpAny_pure (h h' a1 a2 a3 a4 a5)) (PySem.F.args_zip_next_1 _))))
theorem pn3 {T0 : Addr} {f : Bool} {o0 : Obj} (hh : A.handled = none) (S : ZSep z TI TO is ls) (hz : IsZipHeld s.heap z TI TO T0 f) (h0 : s.heap.get? T0 = some o0) (ht : s.heap.get? TI = some { cls := .type "tuple", data := .seq (is.map Value.ref).toArray })
    (hi : ItsAt s.heap k is ls) (hr : ∀ l ∈ ls, l.2.size = k) {Q : Option Value → Shared → Prop}
    (h : ∀ h', (∀ b o, b ∉ z :: TO :: is → s.heap.get? b = some o → h'.get? b = some o) → Q none { s with heap := h' }) : wpAny (model prog w) A (pyNext (.ref z)) Q E s := by
  have hT2 : s.TypeIs (.ref z) "zip" := ⟨_, hz, rfl⟩
  unfold pyNext
  refine wpAny_bind (wpAny_attempt (wpAny_callSpecial?_slot (name := Str.ofString "__next__") hT2 PySem.F.slot_zip_next
    (wpAny_call_entry PySem.F.slot_zip_next hT2 PySem.F.entry_zip_next (zn3_core (A := A.in1) hh S hz h0 ht hi hr fun h' e ho hk => ?_) (PySem.F.args_zip_next_1 _))))
  obtain ⟨o, ho, hc⟩ := ho
  refine wpAny_bind (wpAny_isInstance (T := "StopIteration") (b := true) ⟨o, ho, hc⟩ isSubtype_stop ?_)
  exact wpAny_pure (h _ hk)
def ColsAt (h : Heap) (ls : List (Addr × Array Value)) (ts : List Addr) : Prop := ∀ j t, ts[j]? = some t → h.get? t = some { cls := .type "tuple", data := .seq (colV ls j).toArray }
structure ZAt (h : Heap) (z TI TO L : Addr) (is : List Addr) (ls : List (Addr × Array Value)) (ts : List Addr) (n0 : Nat) : Prop where
  ti : h.get? TI = some { cls := .type "tuple", data := .seq (is.map Value.ref).toArray }
  its : ItsAt h ts.length is ls
  lst : ∃ c, h.get? L = some { cls := .type "list", dict := none, data := .seq (ts.map Value.ref).toArray c, slots := #[] }
  cols : ColsAt h ls ts
  nd : ts.Nodup
  big : ∀ t ∈ ts, n0 ≤ t
  sz : n0 ≤ h.objs.size
/-- the list behind the walk -/
structure ZEnd (h h' : Heap) (z TO L : Addr) (is : List Addr) (ls : List (Addr × Array Value)) (ts : List Addr) (n n0 : Nat) : Prop where
  lst : ∃ c, h'.get? L = some { cls := .type "list", dict := none, data := .seq (ts.map Value.ref).toArray c, slots := #[] }
  cols : ColsAt h' ls ts
  nd : ts.Nodup
  big : ∀ t ∈ ts, n0 ≤ t
  len : ts.length = n
  keep : ∀ b o, b < n0 → b ∉ L :: z :: TO :: is → h.get? b = some o → h'.get? b = some o
variable {R : Result → Shared → Prop} {L : Addr} {n n0 : Nat} {res : Value}
theorem ZAt.push {h h' : Heap} {ts : List Addr} {T : Addr} (S : ZSep z TI TO is ls) (low : ∀ b ∈ L :: z :: TO :: TI :: is, b < n0) (lowl : ∀ l ∈ ls, l.1 < n0) (hL : L ∉ z :: TO :: TI :: is) (hLl : ∀ l ∈ ls, l.1 ≠ L) (X : ZAt h z TI TO L is ls ts n0) (hT : T = h.objs.size) (hi : ItsAt h' (ts.length + 1) is ls) (hsz : h'.objs.size = h.objs.size + 1)
    (hc : h'.get? T = some { cls := .type "tuple", data := .seq (colV ls ts.length).toArray }) (hk : ∀ b o, b ∉ z :: TO :: is → h.get? b = some o → h'.get? b = some o) :
    ZAt (h'.update L (Obj.mapSeq fun y => y.push (.ref T))) z TI TO L is ls (ts ++ [T]) n0 := by
  obtain ⟨x1, x2, ⟨c, x3⟩, x4, x5, x6, x7⟩ := X
  have Lw : L ∉ z :: TO :: is := fun q => hL (by
    rcases List.mem_cons.mp q with e | q
    · rw [e]; exact List.mem_cons_self ..
    · rcases List.mem_cons.mp q with e | q
      · rw [e]; exact List.mem_cons_of_mem _ (List.mem_cons_self ..)
      · exact List.mem_cons_of_mem _ (List.mem_cons_of_mem _ (List.mem_cons_of_mem _ q)))
  have TL : T ≠ L := fun q => by
    have := low L (List.mem_cons_self ..)
    rw [← q, hT] at this
    exact absurd this (Nat.not_lt_of_le x7)
  have big : n0 ≤ T := by rw [hT]; exact x7
  have hiw : ∀ t, n0 ≤ t → t ∉ L :: z :: TO :: TI :: is := fun t ht q => absurd (low t q) (Nat.not_lt_of_le ht)
  have tiL : TI ≠ L := fun q => hL (by rw [← q]; exact List.mem_cons_of_mem _ (List.mem_cons_of_mem _ (List.mem_cons_self ..)))
  have oth : ∀ b o, b ≠ L → h'.get? b = some o → (h'.update L (Obj.mapSeq fun y => y.push (.ref T))).get? b = some o := fun b o hb e => (Heap.get?_update_other _ _ (Ne.symm hb)).trans e
  have wr : ∀ t, n0 ≤ t → t ∉ z :: TO :: is := fun t ht q => hiw t ht (by
    rcases List.mem_cons.mp q with e | q
    · rw [e]; exact List.mem_cons_of_mem _ (List.mem_cons_self ..)
    · rcases List.mem_cons.mp q with e | q
      · rw [e]; exact List.mem_cons_of_mem _ (List.mem_cons_of_mem _ (List.mem_cons_self ..))
      · exact List.mem_cons_of_mem _ (List.mem_cons_of_mem _ (List.mem_cons_of_mem _ (List.mem_cons_of_mem _ q))))
  have tL : ∀ t, n0 ≤ t → t ≠ L := fun t ht q => hiw t ht (by rw [q]; exact List.mem_cons_self ..)
  refine ⟨oth _ _ tiL (hk _ _ S.ti x1), ?_, ?_, fun j t hj => ?_, ?_, fun t ht => ?_, ?_⟩
  · rw [List.length_append]
    exact hi.at (fun i hi' o e => oth _ _ (fun q => hL (by rw [← q]; exact List.mem_cons_of_mem _ (List.mem_cons_of_mem _ (List.mem_cons_of_mem _ hi')))) e) fun l hl o e => oth _ _ (hLl l hl) e
  · have := Heap.get?_update_self (Obj.mapSeq fun y => y.push (Value.ref T)) (hk L _ Lw x3) rfl
    have e : (ts.map Value.ref).toArray.push (.ref T) = ((ts ++ [T]).map Value.ref).toArray := by simp
    rw [← e]
    exact ⟨_, this⟩
  · by_cases hlt : j < ts.length
    · rw [List.getElem?_append_left hlt] at hj
      have ht := x6 t (List.mem_of_getElem? hj)
      exact oth _ _ (tL t ht) (hk _ _ (wr t ht) (x4 j t hj))
    · have hj2 : j = ts.length := by
        have := (List.getElem?_eq_some_iff.mp hj).1
        rw [List.length_append] at this
        simp at this
        omega
      subst hj2
      simp at hj
      subst hj
      exact oth _ _ TL hc
  · rw [List.nodup_append]
    refine ⟨x5, by simp, fun a ha b hb => ?_⟩
    simp at hb
    subst hb
    intro q
    obtain ⟨j, hj⟩ := List.mem_iff_getElem?.mp ha
    have := Heap.lt_size (x4 j a hj)
    rw [q, hT] at this
    exact Nat.lt_irrefl _ this
  · rcases List.mem_append.mp ht with ht | ht
    · exact x6 t ht
    · simp at ht
      rw [ht]; exact big
  · rw [Heap.size_update, hsz]
    exact Nat.le_succ_of_le x7
theorem zip_loop (hh : A.in1.handled = none) (S : ZSep z TI TO is ls) (hrow : ∀ l ∈ ls, l.2.size = n) (hn : n ≤ 1000) (low : ∀ b ∈ L :: z :: TO :: TI :: is, b < n0) (lowl : ∀ l ∈ ls, l.1 < n0) (hL : L ∉ z :: TO :: TI :: is) (hLl : ∀ l ∈ ls, l.1 ≠ L) :
    ∀ (m : Nat) (ts : List Addr) (T0 : Addr) (f : Bool) (s : Shared), ts.length + m = n → T0 ∈ ts → IsZipHeld s.heap z TI TO T0 f → ZAt s.heap z TI TO L is ls ts n0 →
      (∀ h' ts', ZEnd s.heap h' z TO L is ls ts' n n0 → R (.ok (.ret res)) { s with heap := h' }) →
      codeAny (model prog w) A (.builtin "list.extend.loop" ⟨[.ref L, .ref z, res], []⟩) R s
  | 0, ts, T0, f, s, hl, h0, hz, X, h => by
    refine codeAny_builtin PySem.F.entry_extend_loop ?_
    rw [Around.under_plainId PySem.F.plain_extend_loop _]
    show wpAny _ A.in1 (pyNext (.ref z) >>= _) _ _ s
    obtain ⟨j, hj⟩ := List.mem_iff_getElem?.mp h0
    have wr : ∀ t, t ∈ z :: TO :: is → t ∈ L :: z :: TO :: is := fun t q => List.mem_cons_of_mem _ q
    have wr2 : ∀ t, n0 ≤ t → t ∉ z :: TO :: is := fun t ht q => absurd (low t (by
      rcases List.mem_cons.mp q with e | q
      · rw [e]; exact List.mem_cons_of_mem _ (List.mem_cons_self ..)
      · rcases List.mem_cons.mp q with e | q
        · rw [e]; exact List.mem_cons_of_mem _ (List.mem_cons_of_mem _ (List.mem_cons_self ..))
        · exact List.mem_cons_of_mem _ (List.mem_cons_of_mem _ (List.mem_cons_of_mem _ (List.mem_cons_of_mem _ q))))) (Nat.not_lt_of_le ht)
    have Lw : L ∉ z :: TO :: is := fun q => hL (by
      rcases List.mem_cons.mp q with e | q
      · rw [e]; exact List.mem_cons_self ..
      · rcases List.mem_cons.mp q with e | q
        · rw [e]; exact List.mem_cons_of_mem _ (List.mem_cons_self ..)
        · exact List.mem_cons_of_mem _ (List.mem_cons_of_mem _ (List.mem_cons_of_mem _ q)))
    refine wpAny_bind (pn3 (k := ts.length) hh S hz (X.cols j T0 hj) X.ti X.its (fun l hl' => by rw [hrow l hl']; omega) fun h' hk => ?_)
    obtain ⟨c, x3⟩ := X.lst
    exact wpAny_pure (h h' ts ⟨⟨c, hk L _ Lw x3⟩, fun j t hj => hk _ _ (wr2 t (X.big t (List.mem_of_getElem? hj))) (X.cols j t hj), X.nd, X.big, by omega, fun b o _ hb e => hk b o (fun q => hb (wr b q)) e⟩)
  | m + 1, ts, T0, f, s, hl, h0, hz, X, h => by
    refine codeAny_builtin PySem.F.entry_extend_loop ?_
    rw [Around.under_plainId PySem.F.plain_extend_loop _]
    show wpAny _ A.in1 (pyNext (.ref z) >>= _) _ _ s
    obtain ⟨j, hj⟩ := List.mem_iff_getElem?.mp h0
    have Lw : L ∉ z :: TO :: is := fun q => hL (by
      rcases List.mem_cons.mp q with e | q
      · rw [e]; exact List.mem_cons_self ..
      · rcases List.mem_cons.mp q with e | q
        · rw [e]; exact List.mem_cons_of_mem _ (List.mem_cons_self ..)
        · exact List.mem_cons_of_mem _ (List.mem_cons_of_mem _ (List.mem_cons_of_mem _ q)))
    refine wpAny_bind (pn2 (k := ts.length) S hz (X.cols j T0 hj) X.ti X.its (fun l hl' => by rw [hrow l hl']; omega) fun h' a1 a2 a3 a4 a5 => ?_)
    have Y := X.push S low lowl hL hLl rfl a2 a3 a4 a5
    obtain ⟨c, x3⟩ := X.lst
    have hL' := a5 L _ Lw x3
    show wpAny _ A.in1 (updateSeq L (·.push (.ref s.heap.objs.size)) >>= _) _ _ _
    refine wpAny_bind (wpAny_updateSeq hL' rfl (wpAny_pure ⟨plainId_quiet PySem.F.plain_extend_loop _, ?_⟩) (by rw [sizeLine_eq]; simp; omega) (by rw [sizeLine_eq]; simp; omega))
    have zL : z ≠ L := fun q => hL (by rw [q]; exact List.mem_cons_self ..)
    refine zip_loop hh S hrow hn low lowl hL hLl m (ts ++ [s.heap.objs.size]) T0 true _ (by rw [List.length_append]; simp; omega) (List.mem_append_left _ h0) ((Heap.get?_update_other _ _ (Ne.symm zL)).trans a1) Y fun h2 ts' Z => ?_
    refine h h2 ts' ⟨Z.lst, Z.cols, Z.nd, Z.big, Z.len, fun b o hb hb2 e => Z.keep b o hb hb2 ?_⟩
    exact (Heap.get?_update_other _ _ (fun q => hb2 (by rw [← q]; exact List.mem_cons_self ..))).trans (a5 b o (fun q => hb2 (List.mem_cons_of_mem _ q)) e)
theorem zip_loop0 (hh : A.in1.handled = none) (S : ZSep z TI TO is ls) (hrow : ∀ l ∈ ls, l.2.size = n) (hn : n ≤ 1000) (hn1 : 1 ≤ n) (low : ∀ b ∈ L :: z :: TO :: TI :: is, b < n0) (lowl : ∀ l ∈ ls, l.1 < n0) (hL : L ∉ z :: TO :: TI :: is) (hLl : ∀ l ∈ ls, l.1 ≠ L)
    (s : Shared) (hz : IsZip s.heap z TI TO .none) {c : Nat} {kept : List Value} (hk : kept.length = is.length) (hT : s.heap.get? TO = some { cls := .type "tuple", data := .seq kept.toArray c }) (X : ZAt s.heap z TI TO L is ls [] n0)
    (h : ∀ h' ts', ZEnd s.heap h' z TO L is ls ts' n n0 → R (.ok (.ret res)) { s with heap := h' }) :
    codeAny (model prog w) A (.builtin "list.extend.loop" ⟨[.ref L, .ref z, res], []⟩) R s := by
  refine codeAny_builtin PySem.F.entry_extend_loop ?_
  rw [Around.under_plainId PySem.F.plain_extend_loop _]
  show wpAny _ A.in1 (pyNext (.ref z) >>= _) _ _ s
  have Lw : L ∉ z :: TO :: is := fun q => hL (by
    rcases List.mem_cons.mp q with e | q
    · rw [e]; exact List.mem_cons_self ..
    · rcases List.mem_cons.mp q with e | q
      · rw [e]; exact List.mem_cons_of_mem _ (List.mem_cons_self ..)
      · exact List.mem_cons_of_mem _ (List.mem_cons_of_mem _ (List.mem_cons_of_mem _ q)))
  refine wpAny_bind (pn1 (k := 0) S hz X.ti hk hT X.its (fun l hl' => by rw [hrow l hl']; omega) fun h' a1 a2 a3 a4 a5 => ?_)
  have Y := X.push S low lowl hL hLl rfl a2 a3 a4 a5
  obtain ⟨c, x3⟩ := X.lst
  have hL' := a5 L _ Lw x3
  show wpAny _ A.in1 (updateSeq L (·.push (.ref s.heap.objs.size)) >>= _) _ _ _
  refine wpAny_bind (wpAny_updateSeq hL' rfl (wpAny_pure ⟨plainId_quiet PySem.F.plain_extend_loop _, ?_⟩) (by rw [sizeLine_eq]; simp) (by rw [sizeLine_eq]; simp))
  have zL : z ≠ L := fun q => hL (by rw [q]; exact List.mem_cons_self ..)
  refine zip_loop hh S hrow hn low lowl hL hLl (n - 1) ([] ++ [s.heap.objs.size]) s.heap.objs.size false _ (by simp; omega) (by simp) ((Heap.get?_update_other _ _ (Ne.symm zL)).trans a1) Y fun h2 ts' Z => ?_
  refine h h2 ts' ⟨Z.lst, Z.cols, Z.nd, Z.big, Z.len, fun b o hb hb2 e => Z.keep b o hb hb2 ?_⟩
  exact (Heap.get?_update_other _ _ (fun q => hb2 (by rw [← q]; exact List.mem_cons_self ..))).trans (a5 b o (fun q => hb2 (List.mem_cons_of_mem _ q)) e)
theorem zip_extend {h0 : Heap} (hh : A.in1.handled = none) (N : ZNew h0 s.heap z TI TO is ls) (hrow : ∀ l ∈ ls, l.2.size = n) (hn : n ≤ 1000) (hn1 : 1 ≤ n) (hls : ∀ l ∈ ls, l.1 < h0.objs.size) (hL0 : L ∉ z :: TO :: TI :: is) (hL1 : h0.objs.size ≤ L) {c0 : Nat}
    (hL : s.heap.get? L = some { cls := .type "list", data := .seq #[] c0 })
    (h : ∀ h' ts, ts.length = n → ts.Nodup → (∃ c, h'.get? L = some { cls := .type "list", data := .seq (ts.map Value.ref).toArray c }) → ColsAt h' ls ts → (∀ t ∈ ts, L < t) → (∀ b o, h0.get? b = some o → h'.get? b = some o) → R (.ok (.ret res)) { s with heap := h' }) :
    wpAny (model prog w) A.in1 (Builtin.List.listExtendWith (.ref L) (.ref z) res)
      (fun fin s' => match fin with | .done f => R (.ok f) s' | .again c' => c'.quiet = true ∧ codeAny (model prog w) A c' R s') (fun e s' => R (.error e) s') s := by
  have zL : z ≠ L := fun q => hL0 (by rw [q]; exact List.mem_cons_self ..)
  have hT2 : s.TypeIs (.ref z) "zip" := ⟨_, N.zip, rfl⟩
  unfold Builtin.List.listExtendWith
  refine wpAny_bind (wpAny_typeOf hT2 ?_)
  have h1 : Builtin.List.listSameRef (.ref L) (.ref z) = false := by simp [Builtin.List.listSameRef, Ne.symm zL]
  have h2 : (Value.type "zip" == Value.type "list") = false := by decide
  have h3 : (Value.type "zip" == Value.type "tuple") = false := by decide
  simp only [h1, h2, h3, Bool.or_false, Bool.false_eq_true, if_false]
  refine wpAny_bind (wpAny_pyIter_zip N.zip (wpAny_bind (wpAny_holding ?_)))
  unfold Builtin.List.listLengthHint
  refine wpAny_bind (wpAny_specialOf hT2 zip_no_len ?_)
  show wpAny _ A.in1 (specialOf (Value.ref z) (Str.ofString "__length_hint__") >>= _) _ _ _
  refine wpAny_bind (wpAny_specialOf hT2 zip_no_hint (wpAny_pure ?_))
  show wpAny _ A.in1 (rule "list.extend.makes-room" >>= fun _ => Builtin.List.listTouch (.ref L) >>= fun _ => again (.builtin "list.extend.loop" ⟨[.ref L, .ref z, res], []⟩)) _ _ _
  refine wpAny_bind (wpAny_rule (wpAny_bind ?_))
  show wpAny _ A.in1 (updateSeq L (·.push .none) >>= fun _ => updateSeq L (·.pop)) _ _ _
  refine wpAny_bind (wpAny_updateSeq hL rfl ?_)
  have g2 := Heap.get?_update_self (Obj.mapSeq (·.push Value.none)) hL rfl
  refine wpAny_updateSeq (hz := by seq_fits) g2 rfl (wpAny_pure ⟨plainId_quiet PySem.F.plain_extend_loop _, ?_⟩)
  have g3 := Heap.get?_update_self (Obj.mapSeq (·.pop)) g2 rfl
  have oth : ∀ b o, b ≠ L → s.heap.get? b = some o → ((s.heap.update L (Obj.mapSeq (·.push Value.none))).update L (Obj.mapSeq (·.pop))).get? b = some o :=
    fun b o hb e => (Heap.get?_update_other _ _ (Ne.symm hb)).trans ((Heap.get?_update_other _ _ (Ne.symm hb)).trans e)
  have zne : ∀ b ∈ z :: TO :: TI :: is, b ≠ L := fun b hb q => hL0 (by rw [← q]; exact hb)
  have lne : ∀ l ∈ ls, l.1 ≠ L := fun l hl q => absurd (hls l hl) (by rw [q]; exact Nat.not_lt_of_le hL1)
  have ssz : ((s.heap.update L (Obj.mapSeq (·.push Value.none))).update L (Obj.mapSeq (·.pop))).objs.size = s.heap.objs.size := by rw [Heap.size_update, Heap.size_update]
  have szL : L < s.heap.objs.size := Heap.lt_size hL
  have alive : ∀ b ∈ L :: z :: TO :: TI :: is, b < s.heap.objs.size := fun b hb => by
    rcases List.mem_cons.mp hb with e | hb
    · rw [e]; exact szL
    · rcases List.mem_cons.mp hb with e | hb
      · rw [e]; exact Heap.lt_size N.zip
      · rcases List.mem_cons.mp hb with e | hb
        · rw [e]; exact Heap.lt_size N.to
        · rcases List.mem_cons.mp hb with e | hb
          · rw [e]; exact Heap.lt_size N.ti
          · obtain ⟨o, e, _⟩ := N.its.alive b hb
            exact Heap.lt_size e
  have base : h0.objs.size ≤ s.heap.objs.size := Nat.le_trans hL1 (Nat.le_of_lt szL)
  refine zip_loop0 (n0 := s.heap.objs.size) hh N.sep hrow hn hn1 alive (fun l hl => Nat.lt_of_lt_of_le (hls l hl) base) hL0 lne _ (oth _ _ zL N.zip) (by rw [List.length_map]) (oth _ _ (zne TO (List.mem_cons_of_mem _ (List.mem_cons_self ..))) N.to)
    ⟨oth _ _ (zne TI (List.mem_cons_of_mem _ (List.mem_cons_of_mem _ (List.mem_cons_self ..)))) N.ti, N.its.at (fun i hi o e => oth _ _ (zne i (List.mem_cons_of_mem _ (List.mem_cons_of_mem _ (List.mem_cons_of_mem _ hi)))) e) fun l hl o e => oth _ _ (lne l hl) e, ⟨_, g3⟩, fun j t hj => by simp at hj, List.nodup_nil, fun t ht => by simp at ht, by rw [ssz]; exact Nat.le_refl _⟩ fun h' ts Z => ?_
  refine h h' ts Z.len Z.nd Z.lst Z.cols (fun t ht => Nat.lt_of_lt_of_le szL (Z.big t ht)) fun b o e => ?_
  have hb := Heap.lt_size e
  have nb : ∀ t, h0.objs.size ≤ t → b ≠ t := fun t ht q => absurd hb (by rw [q]; exact Nat.not_lt_of_le ht)
  refine Z.keep b o (Nat.lt_of_lt_of_le hb base) (fun hm => ?_) (oth _ _ (nb L hL1) (N.keep b o e))
  rcases List.mem_cons.mp hm with e | hm
  · exact nb L hL1 e
  · refine nb b (N.new b ?_) rfl
    rcases List.mem_cons.mp hm with e | hm
    · rw [e]; exact List.mem_cons_self ..
    · rcases List.mem_cons.mp hm with e | hm
      · rw [e]; exact List.mem_cons_of_mem _ (List.mem_cons_self ..)
      · exact List.mem_cons_of_mem _ (List.mem_cons_of_mem _ (List.mem_cons_of_mem _ hm))
/-- list(z) of a new zip of many -/
theorem call_listZip {h0 : Heap} {Q : Value → Shared → Prop} (hh : A.handled = none) (N : ZNew h0 s.heap z TI TO is ls) (hrow : ∀ l ∈ ls, l.2.size = n) (hn : n ≤ 1000) (hn1 : 1 ≤ n) (hls : ∀ l ∈ ls, l.1 < h0.objs.size)
    (h : ∀ h' L ts, ts.length = n → ts.Nodup → (∃ c, h'.get? L = some { cls := .type "list", data := .seq (ts.map Value.ref).toArray c }) → ColsAt h' ls ts → (∀ t ∈ ts, L < t) → h0.objs.size ≤ L → (∀ b o, h0.get? b = some o → h'.get? b = some o) → Q (.ref L) { s with heap := h' }) :
    wpAny (model prog w) A (call (.type "list") [.ref z]) Q E s := by
  have up : ∀ b o, s.heap.get? b = some o → (s.heap.push { cls := .type "list", data := .seq #[] }).get? b = some o := fun b o e => Heap.get?_push_of_some _ e
  have alive : ∀ b ∈ z :: TO :: TI :: is, b < s.heap.objs.size := fun b hb => by
    rcases List.mem_cons.mp hb with e | hb
    · rw [e]; exact Heap.lt_size N.zip
    · rcases List.mem_cons.mp hb with e | hb
      · rw [e]; exact Heap.lt_size N.to
      · rcases List.mem_cons.mp hb with e | hb
        · rw [e]; exact Heap.lt_size N.ti
        · obtain ⟨o, e, _⟩ := N.its.alive b hb
          exact Heap.lt_size e
  have szz : h0.objs.size ≤ s.heap.objs.size := Nat.le_trans (N.new z (List.mem_cons_self ..)) (Nat.le_of_lt (Heap.lt_size N.zip))
  have hL0 : s.heap.objs.size ∉ z :: TO :: TI :: is := fun q => Nat.lt_irrefl _ (alive _ q)
  refine callType_codes (Q₁ := fun obj s₁ => obj = .ref s.heap.objs.size ∧ s₁ = { s with heap := s.heap.push { cls := .type "list", data := .seq #[] } }) PySem.F.called_list (PySem.F.typeCall_list_1 _) PySem.F.entry_list_init (code_list_new _ ⟨rfl, rfl⟩) fun obj s₁ h₁ => ?_
  obtain ⟨rfl, rfl⟩ := h₁
  have hS : (s.heap.push { cls := .type "list", data := .seq #[] }).get? s.heap.objs.size = some { cls := .type "list", data := .seq #[] } := Heap.get?_push_size _ rfl
  refine ⟨⟨_, hS, rfl⟩, PySem.F.args_list_init_2 _ _, ?_⟩
  show wpAny _ A.in1.in1 (do let old ← Builtin.List.listItems (.ref s.heap.objs.size); Builtin.List.listUpdate (.ref s.heap.objs.size) (fun _ => #[]); letGo old.toList.reverse; Builtin.List.listExtendWith (.ref s.heap.objs.size) (.ref z) .none) _ _ _
  refine wpAny_bind ?_
  unfold Builtin.List.listItems
  refine wpAny_bind (wpAny_seqItems hS rfl (wpAny_pure ?_))
  show wpAny _ A.in1.in1 (updateSeq s.heap.objs.size (fun _ => #[]) >>= fun _ => letGo (#[] : Array Value).toList.reverse >>= fun _ => Builtin.List.listExtendWith (.ref s.heap.objs.size) (.ref z) .none) _ _ _
  refine wpAny_bind (wpAny_updateSeq hS rfl ?_)
  have hS2 := Heap.get?_update_self (Obj.mapSeq (fun _ => (#[] : Array Value))) hS rfl
  have oth : ∀ b o, s.heap.get? b = some o → ((s.heap.push { cls := .type "list", data := .seq #[] }).update s.heap.objs.size (Obj.mapSeq (fun _ => (#[] : Array Value)))).get? b = some o :=
    fun b o e => (Heap.get?_update_other _ _ (Nat.ne_of_gt (Heap.lt_size e))).trans (up b o e)
  refine wpAny_bind (wpAny_letGo ?_)
  refine zip_extend (h0 := h0) hh ⟨N.sep, oth _ _ N.zip, oth _ _ N.ti, oth _ _ N.to, N.its.at (fun _ _ o e => oth _ _ e) (fun _ _ o e => oth _ _ e), fun b o e => oth _ _ (N.keep b o e), N.new⟩ hrow hn hn1 hls hL0 szz hS2 fun h' ts a1 a2 a3 a4 a5 a6 => ?_
  exact ⟨rfl, h h' _ ts a1 a2 a3 a4 a5 szz a6⟩
end
end PL
set_option Elab.async false
set_option linter.all false
set_option maxRecDepth 100000
namespace PL
open PySem PySem.Spec PyProof.Rows L2

/-! ### list(zip(*t)) -/
/-- the columns of rows of the length n -/
def colsD (rows : List (List D)) (n : Nat) : List D := (List.range n).map fun j => .tup (rows.map fun r => r.getD j .non)
def dZipStar (t : DT) : DT := fun ρ Q E => t ρ (fun d => ∃ rows n, d = .tup (rows.map .tup) ∧ rows ≠ [] ∧ rows.length ≤ 1000 ∧ (∀ r ∈ rows, r.length = n) ∧ 1 ≤ n ∧ n ≤ 1000 ∧ Q (.lst (colsD rows n))) E
section
variable {K : PySem.W.Frag} {mg : Str → Option Value} {M : Am} {F H : Hp} {P : Program} {w : World} {h : Heap}
/-- the rows of a tuple of tuples -/
theorem rows_of (s : Sub F H) (ok : HOk P w H h) : ∀ (rows : List (List D)) (vs : List V) (us : List Value), RepL K mg M F (rows.map .tup) vs → Vals vs us →
    ∃ (ls : List (Addr × Array Value)) (vss : List (List V)), us = ls.map (fun l => .ref l.1) ∧ (∀ l ∈ ls, h.IsTuple l.1 l.2) ∧ vss.length = rows.length ∧ ls.length = rows.length ∧
      (∀ (i : Nat) (r : List D), rows[i]? = some r → ∃ (l : Addr × Array Value) (vs : List V), ls[i]? = some l ∧ vss[i]? = some vs ∧ RepL K mg M F r vs ∧ Vals vs l.2.toList)
  | [], vs, us, r, rv => by
    rw [show vs = [] from r] at rv
    cases rv
    exact ⟨[], [], rfl, fun l hl => by simp at hl, rfl, rfl, fun i r h => by simp at h⟩
  | d :: rows, vs, us, r, rv => by
    obtain ⟨x, xs, rfl, r1, r2⟩ := r
    cases rv with
    | cons q1 q2 =>
      obtain ⟨ls, vss, e1, e2, e3, e4, e5⟩ := rows_of s ok rows xs _ r2 q2
      obtain ⟨a, o, vs, rfl, q, ⟨arr, ho⟩, rl⟩ := r1
      obtain ⟨g0, hl, its, rv, t⟩ := ok a _ (s a _ q)
      obtain rfl : _ = Value.ref a := q1
      obtain ⟨o', g1, g2, n, g4⟩ := t
      refine ⟨(a, its.toArray) :: ls, vs :: vss, by rw [e1]; rfl, fun l hl => ?_, by simp [e3], by simp [e4], fun i r hi => ?_⟩
      · rcases List.mem_cons.mp hl with rfl | hl
        · exact ⟨o', g1, g2, n, g4⟩
        · exact e2 l hl
      · cases i with
        | zero =>
          simp at hi
          subst hi
          exact ⟨_, _, rfl, rfl, rl, by simpa using rv⟩
        | succ i => exact e5 i r (by simpa using hi)
end
section
variable {K : PySem.W.Frag} {mg : Str → Option Value} {M : Am} {F : Hp}
/-- a column's values -/
theorem col_of {j n : Nat} (hj : j < n) : ∀ (rows : List (List D)) (ls : List (Addr × Array Value)) (vss : List (List V)), (∀ r ∈ rows, r.length = n) → vss.length = rows.length → ls.length = rows.length →
    (∀ (i : Nat) (r : List D), rows[i]? = some r → ∃ (l : Addr × Array Value) (vs : List V), ls[i]? = some l ∧ vss[i]? = some vs ∧ RepL K mg M F r vs ∧ Vals vs l.2.toList) →
    ∃ ws, RepL K mg M F (rows.map fun r => r.getD j .non) ws ∧ Vals ws (colV ls j)
  | [], [], [], _, _, _, _ => ⟨[], rfl, .nil⟩
  | [], _ :: _, _, _, _, h, _ => by simp at h
  | [], _, _ :: _, _, h, _, _ => by simp at h
  | r :: rows, [], _, _, _, h, _ => by simp at h
  | r :: rows, _, [], _, h, _, _ => by simp at h
  | r :: rows, l :: ls, v :: vss, hn, h1, h2, h => by
    obtain ⟨l', v', e1, e2, e3, e4⟩ := h 0 r rfl
    simp at e1 e2
    subst e1 e2
    obtain ⟨ws, a1, a2⟩ := col_of hj rows ls vss (fun r hr => hn r (List.mem_cons_of_mem _ hr)) (by simpa using h1) (by simpa using h2) fun i r hi => by simpa using h (i + 1) r (by simpa using hi)
    have hr := hn r (List.mem_cons_self ..)
    have hd : r[j]? = some (r.getD j .non) := by
      have : j < r.length := by omega
      simp [List.getD, this]
    obtain ⟨x, hx, rx⟩ := e3.get hd
    obtain ⟨u, hu, ru⟩ := e4.get hx
    refine ⟨x :: ws, ⟨x, ws, rfl, rx, a1⟩, ?_⟩
    have e : colV (l :: ls) j = u :: colV ls j := by
      simp only [colV, List.map_cons]
      congr 1
      rw [Array.getElem?_toList] at hu
      simp [Array.getD_eq_getD_getElem?, hu]
    rw [e]
    exact .cons ru a2
end
theorem nodup_ix {α : Type} {x : α} : ∀ {l : List α} {i j : Nat}, l.Nodup → l[i]? = some x → l[j]? = some x → i = j
  | [], _, _, _, h, _ => by simp at h
  | a :: l, 0, 0, _, _, _ => rfl
  | a :: l, 0, j + 1, nd, h, h' => by
    simp at h h'
    subst h
    exact absurd (List.mem_of_getElem? h') (List.nodup_cons.mp nd).1
  | a :: l, i + 1, 0, nd, h, h' => by
    simp at h h'
    subst h'
    exact absurd (List.mem_of_getElem? h) (List.nodup_cons.mp nd).1
  | a :: l, i + 1, j + 1, nd, h, h' => by
    simp at h h'
    rw [nodup_ix (List.nodup_cons.mp nd).2 h h']
section
variable {M : Am} {W : WX} {X : Cx} {pos : Pos}
theorem puo_zipStar {e : Expr} {t : DT} {p p2 pz sp : Pos} (hc : X.calm = true) (hg : Gl X "list") (hm : X.mg "list" = none) (hg2 : Gl X "zip") (hm2 : X.mg "zip" = none) (he : PuE M W X e t)
    (na : starEach [.Call (.Name "zip" p2) [.Starred e sp] [] pz] X.env = (false, eval (.Call (.Name "zip" p2) [.Starred e sp] [] pz) X.env) :: starEach [] X.env := by rfl)
    (ns : starEach [.Starred e sp] X.env = [(true, eval e X.env)] := by rfl) :
    PuO M W X (.Call (.Name "list" p) [.Call (.Name "zip" p2) [.Starred e sp] [] pz] [] pos) (dZipStar t) := ⟨fun pins s σ H QV I ⟨H0, F, ρ, Q, E, k, ht, q, ex⟩ => by
  have hh : X.A.handled = none := I.ok.hd hc
  refine Call_ (ld_blt I hg hm (u := .type "list") rfl (PyProof.Rows.callWith_type1 (wpAny_items_cons (Q := _) ?_ na) na rfl))
  refine Call_ (ld_blt I hg2 hm2 (u := .type "zip") rfl ?_)
  rw [ns]
  refine PySem.W.ks_call (P := fun _ => True) rfl (fun h _ => ⟨.machine, .inr (.inl rfl), fun A Q E s _ hq => wpAny_pure hq⟩) (PySem.W.ks_lone ?_)
  refine thn (he.run pins s σ H _ I (show tE M W X t σ H (fun v H1 => ∃ F1 d, Gr M F H F1 H1 ∧ Rep X.K X.mg M F1 d v ∧ ∃ rows n, d = .tup (rows.map .tup) ∧ rows ≠ [] ∧ rows.length ≤ 1000 ∧ (∀ r ∈ rows, r.length = n) ∧ 1 ≤ n ∧ n ≤ 1000 ∧ Q (.lst (colsD rows n))) from ⟨H0, F, ρ, _, E, k, ht, fun v H1 F1 d g r hq => ⟨F1, d, g, r, hq⟩, ex⟩)) fun u s1 ⟨v, H1, I1, ru, hh1⟩ => ?_
  obtain ⟨F1, d, g, r, hq⟩ := hh1
  obtain ⟨rows, n, rfl, hne, hlen, hrow, hn1, hn, hQ⟩ := hq
  obtain ⟨a, vs, rfl, sq, rl⟩ := rep_tup r
  obtain rfl : u = Value.ref a := ru
  have sqH : SqT X.K H1 a vs := by
    rcases sq with (h | ⟨o, h⟩) | h
    · exact .inl (.inl (g.inn _ _ h))
    · exact .inl (.inr ⟨o, g.inn _ _ h⟩)
    · exact .inr h
  refine star_tup I1 sqH fun us s2 I2 rv => ⟨trivial, ?_⟩
  obtain ⟨ls, vss, rfl, htu, hv1, hv2, hv3⟩ := rows_of g.inn I2.hok rows vs us rl rv
  cases ls with
  | nil => exact absurd (List.length_eq_zero_iff.mp hv2.symm) hne
  | cons l ls =>
    have hrow2 : ∀ l' ∈ l :: ls, l'.2.size = n := fun l' hl' => by
      obtain ⟨i, hi⟩ := List.mem_iff_getElem?.mp hl'
      have hi2 := (List.getElem?_eq_some_iff.mp hi).1
      obtain ⟨r, hr⟩ : ∃ r, rows[i]? = some r := ⟨rows[i]'(by omega), List.getElem?_eq_getElem (by omega)⟩
      obtain ⟨l2, vs2, e1, e2, e3, e4⟩ := hv3 i r hr
      rw [hi] at e1
      cases e1
      have x1 := e3.length
      have x2 := e4.length
      rw [Array.length_toList] at x2
      have x3 := hrow r (List.mem_of_getElem? hr)
      exact x2.symm.trans (x1.trans x3)
    refine call_zipM (l := l) (ls := ls) htu (by rw [hv2]; exact hlen) fun h' z TI TO is N => wpAny_items_nil ?_
    refine call_listZip (h0 := s2.heap) hh N hrow2 hn hn1 (fun l' hl' => by obtain ⟨o, e, _⟩ := htu l' hl'; exact Heap.lt_size e) fun h'' L ts b1 b2 b3 b4 b5 b6 b7 => ?_
    have hcol : ∃ cw : Nat → List V, ∀ j, j < n → RepL X.K X.mg M F1 (rows.map fun r => r.getD j .non) (cw j) ∧ Vals (cw j) (colV (l :: ls) j) := by
      refine ⟨fun j => if h : j < n then (col_of h rows (l :: ls) vss hrow hv1 hv2 hv3).choose else [], fun j hj => ?_⟩
      simp only [dif_pos hj]
      exact (col_of hj rows (l :: ls) vss hrow hv1 hv2 hv3).choose_spec
    obtain ⟨cw, hcw⟩ := hcol
    let ob : Addr → Obj := fun b => { cls := .type "tuple", data := .seq (colV (l :: ls) (ts.idxOf b)).toArray }
    have hix : ∀ b, b ∈ ts → ts.idxOf b < n ∧ h''.get? b = some (ob b) := fun b hb => by
      have h1 := List.idxOf_lt_length_of_mem hb
      refine ⟨by rw [← b1]; exact h1, b4 _ b ?_⟩
      rw [List.getElem?_eq_getElem h1, List.getElem_idxOf]
    have fresh : ∀ b, s2.heap.objs.size ≤ b → s2.heap.get? b = none := fun b hb => by
      cases e : s2.heap.get? b with
      | none => rfl
      | some o => exact absurd (Heap.lt_size e) (Nat.not_lt_of_le hb)
    have tsz : ∀ b, b ∈ ts → s2.heap.objs.size ≤ b := fun b hb => Nat.le_trans b6 (Nat.le_of_lt (b5 b hb))
    have hH1 : ∀ b o, H1 b = some o → b ≠ L ∧ b ∉ ts := fun b o hb => by
      obtain ⟨u, hu⟩ := objOk_get (I2.hok b o hb)
      have := Heap.lt_size hu
      exact ⟨fun z => absurd this (by rw [z]; exact Nat.not_lt_of_le b6), fun z => absurd this (Nat.not_lt_of_le (tsz b z))⟩
    have Lts : L ∉ ts := fun z => Nat.lt_irrefl _ (b5 L z)
    let F' : Hp := fun b => if b ∈ ts then some (.frz (ob b) (.tup (cw (ts.idxOf b)))) else F1 b
    have subF : Sub F1 F' := fun b o hb => by
      show (if b ∈ ts then _ else F1 b) = some o
      rw [if_neg (hH1 b o (g.inn b o hb)).2]; exact hb
    let H' : Hp := fun b => if b = L then some (.lst (ts.map V.ref)) else if b ∈ ts then some (.frz (ob b) (.tup (cw (ts.idxOf b)))) else H1 b
    have hold : ∀ b o, H1 b = some o → H' b = some o := fun b o hb => by
      obtain ⟨n1, n2⟩ := hH1 b o hb
      show (if b = L then _ else if b ∈ ts then _ else H1 b) = some o
      rw [if_neg n1, if_neg n2]; exact hb
    have vts : ∀ l : List Addr, Vals (l.map V.ref) (l.map Value.ref) := fun l => by
      induction l with
      | nil => exact .nil
      | cons a l ih => exact .cons rfl ih
    have hcl : ∀ j, j < n → (cw j).length ≤ sizeLine := fun j hj => by
      have := (hcw j hj).1.length
      rw [List.length_map] at this
      rw [this, sizeLine_eq]
      omega
    obtain ⟨cc, b3⟩ := b3
    have I3 : L2.Inv X pins σ H' { s2 with heap := h'' } := by
      refine inv_many (t' := s2.toks) I2 b7 hold fun b o hb => ?_
      have hb : (if b = L then some (HO.lst (ts.map V.ref)) else if b ∈ ts then some (.frz (ob b) (.tup (cw (ts.idxOf b)))) else H1 b) = some o := hb
      by_cases z : b = L
      · rw [if_pos z] at hb
        cases hb
        refine .inr ⟨by rw [z]; exact fresh L b6, by rw [List.length_map, b1, sizeLine_eq]; omega, ts.map Value.ref, cc, vts ts, by rw [z]; exact b3⟩
      · rw [if_neg z] at hb
        by_cases y : b ∈ ts
        · rw [if_pos y] at hb
          cases hb
          obtain ⟨y1, y2⟩ := hix b y
          exact .inr ⟨fresh b (tsz b y), y2, hcl _ y1, colV (l :: ls) (ts.idxOf b), (hcw _ y1).2, _, y2, rfl, _, rfl⟩
        · rw [if_neg y] at hb
          exact .inl hb
    have nH1 : ∀ b, (b = L ∨ b ∈ ts) → H1 b = none := fun b hb => by
      cases e : H1 b with
      | none => rfl
      | some o =>
        obtain ⟨n1, n2⟩ := hH1 b o e
        rcases hb with z | z
        · exact absurd z n1
        · exact absurd z n2
    have nfp : ∀ b, (b = L ∨ b ∈ ts) → ¬ M.fp b := fun b hb z => M.tr H1 b g.inv z (nH1 b hb)
    have g2 : Gr M F1 H1 F' H' := by
      refine ⟨fun b o _ hb => hold b o hb, subF, fun b o hb => ?_, fun b o hb => ?_, fun b o hb => ?_, M.stab H1 H' (fun b hb => ?_) g.inv⟩
      · have hb : (if b ∈ ts then _ else F1 b) = some o := hb
        show (if b = L then _ else if b ∈ ts then _ else H1 b) = some o
        by_cases y : b ∈ ts
        · rw [if_neg (fun (z : b = L) => Lts (by rw [← z]; exact y)), if_pos y]
          rw [if_pos y] at hb; exact hb
        · rw [if_neg y] at hb
          have := g.inn b o hb
          rw [if_neg (hH1 b o this).1, if_neg y]; exact this
      · have hb : (if b ∈ ts then _ else F1 b) = some o := hb
        by_cases y : b ∈ ts
        · exact nfp b (.inr y)
        · rw [if_neg y] at hb; exact g.off b o hb
      · have hb : (if b ∈ ts then _ else F1 b) = some o := hb
        by_cases y : b ∈ ts
        · exact .inr (nH1 b (.inr y))
        · rw [if_neg y] at hb; exact .inl hb
      · show (if b = L then _ else if b ∈ ts then _ else H1 b) = H1 b
        rw [if_neg (fun z => nfp b (.inl z) hb), if_neg (fun z => nfp b (.inr z) hb)]
    have hrep : RepL X.K X.mg M F' (colsD rows n) (ts.map V.ref) := by
      have key : ∀ (m j : Nat) (tt : List Addr), tt.length = m → j + m = n → tt = ts.drop j → RepL X.K X.mg M F' ((List.range' j m).map fun j => D.tup (rows.map fun r => r.getD j .non)) (tt.map V.ref) := by
        intro m
        induction m with
        | zero =>
          intro j tt h1 h2 h3
          have : tt = [] := List.length_eq_zero_iff.mp h1
          subst this
          rfl
        | succ m ih =>
          intro j tt h1 h2 h3
          cases tt with
          | nil => simp at h1
          | cons t tt =>
            have ht : ts[j]? = some t := by
              have := congrArg (fun l => l[0]?) h3
              simpa using this.symm
            have hm : t ∈ ts := List.mem_of_getElem? ht
            have hidx : ts.idxOf t = j := by
              have h1 := List.idxOf_lt_length_of_mem hm
              exact nodup_ix b2 (by rw [List.getElem?_eq_getElem h1, List.getElem_idxOf]) ht
            rw [List.range'_succ, List.map_cons, List.map_cons]
            refine ⟨.ref t, _, rfl, ⟨t, ob t, cw (ts.idxOf t), rfl, if_pos hm, ⟨_, rfl⟩, ?_⟩, ih (j + 1) tt (by simpa using h1) (by omega) ?_⟩
            · rw [hidx]
              exact RepL.mono subF _ (hcw j (by omega)).1
            · have := congrArg List.tail h3
              simpa using this
      have := key n 0 ts b1 (by omega) rfl
      rw [← List.range_eq_range'] at this
      exact this
    refine ⟨.ref L, H', I3, rfl, q L H' F' (.lst (colsD rows n)) (g.trans g2) (g.free g.inv (nH1 _ (.inl rfl))) ?_ ⟨_, _, rfl, if_pos rfl, hrep⟩ hQ⟩
    show (if L ∈ ts then _ else F1 L) = none
    rw [if_neg Lts]
    cases e : F1 L with
    | none => rfl
    | some o => exact absurd rfl (hH1 _ o (g.inn _ _ e)).1⟩
end
end PL
set_option Elab.async false
set_option linter.all false
set_option maxRecDepth 100000
namespace PL
open PySem PySem.Spec PyProof.Rows L2

/-! ## the script, the hand, the law -/
/-- beside runs the script alone, as the thing M.hd -/
def ScrAm (K : PySem.W.Frag) (M : Am) (ns : List Int) : Prop := ∀ H : Hp, M.inv H → SqL K H M.hd (ns.map V.int)
section
variable {M : Am} {W : WX} {X : Cx} {pos : Pos}
def dScr (i : Nat) : DT := fun ρ Q _ => ρ[i]? = some (some (.val .hand)) ∧ ∀ cells : List Int, cells.length ≤ 63 → Q (.lst (cells.map D.int))
theorem pu_scr {i : Nat} {ns : List Int} (hS : ScrAm X.K M ns) {e : Expr} {p2 : Pos} {j p3} (he : PE X e (tVar i)) : PuE M W X (.Subscript e (.Slice none (some (.Constant (.int 63) j p3)) none p2) pos) (dScr i) :=
  PEimp (pe_slice sl_list he po_none (po_some pe_int)) fun σ H QV ⟨H0, F, ρ, Q, E, k, ht, q, e⟩ => by
    obtain ⟨hi, hq⟩ := ht
    obtain ⟨v, e2, r⟩ := k.slot i _ hi
    obtain rfl : v = .ref M.hd := r
    refine ⟨_, e2, 63, rfl, M.hd, ns.map V.int, rfl, hS H k.inv, fun p np => ?_⟩
    have hc : cutV (ns.map V.int) none (some 63) = (ns.take 63).map V.int := by
      unfold cutV
      rw [HT.sIx_none, List.drop_zero, List.map_take, show (some (63 : Int)) = some (((63 : Nat)) : Int) from rfl, HT.sIx_nat, List.length_map, Nat.sub_zero]
      by_cases h : 63 ≤ ns.length
      · rw [Nat.min_eq_left h]
      · rw [Nat.min_eq_right (by omega), List.take_of_length_le (by rw [List.length_map]; omega), List.take_of_length_le (by rw [List.length_map]; omega)]
    rw [hc]
    refine q _ _ (upd F p (.lst ((ns.take 63).map V.int))) _ (k.refl.laid _ np) ?_ (hq (ns.take 63) (by rw [List.length_take]; omega))
    exact ⟨p, _, rfl, upd_same, repL_ints _⟩
end
/-- a heap that says nothing is told -/
theorem gr_nil {M : Am} {H : Hp} (i : M.inv H) : Gr M (fun _ => none) H (fun _ => none) H :=
  ⟨fun _ _ _ e => e, fun _ _ e => e, fun _ _ e => (by cases e), fun _ _ e => (by cases e), fun _ _ e => (by cases e), i⟩
/-- what the hand's def promises: a new list, whose first item is a new list of numbers -/
def spHand (K : PySem.W.Frag) : Sp := fun vs H Q _ => ∃ (a : Addr) (ns : List Int), vs = [.ref a] ∧ SqL K H a (ns.map V.int) ∧
  ∀ (H' : Hp) (p q : Addr) (cells : List Int) (m : Int), p ≠ q → H' p = some (.lst [.ref q, .int 0, .int 0, .int m, .int 0]) → H' q = some (.lst (cells.map V.int)) → Q (.ref p) H'
/-- .. and so it keeps, where its body by data tells such a list -/
theorem hand_of {P : Program} {w : World} {K : PySem.W.Frag} {mg : Str → Option Value} {base : Heap} {k : Nat} {x qual : Str} {st : Stmt} {f : Addr} {fd : FuncData} {N : List Str} {s0 : Str} {t : DS} (F : Fun K x qual st f fd) (S : FnScope N [s0] (defScope st))
    (body : ∀ (M : Am) (ns : List Int) (_ : ScrAm K M ns) (cdv : Value) (A : Around) (outer : List PySem.Env) (s : Shared) (H : Hp) (E : XK), RoomG k (A.deeper (envOfC qual (defScope st) s.heap.objs.size f cdv)) →
      PuSs M (bodyW E) (bodyCx P w K mg base N qual st f cdv A outer s H E) (defBody st) t)
    (law : ∀ Q : D → Prop, (∀ (cells : List Int) (m : Int), Q (.lst [.lst (cells.map D.int), .int 0, .int 0, .int m, .int 0])) → t { nx := fun _ => False, rt := Q, ex := fun _ => False } (startE N.length [.hand])) :
    FnG P w K mg base (k + 1) f fd [s0] (spHand K) := by
  refine fng_of F S (fun vs H Q E ⟨a, ns, e, _⟩ => by rw [e]; rfl) fun cdv A outer s H vs Q E hr ⟨a, ns, e, hs, hq⟩ => ?_
  subst e
  -- what holds of the script stays
  have key : ∀ M : Am, M.hd = a → M.inv H → ScrAm K M ns → ∃ t, PSs (cxOf (L2.CX P w) P w K mg base N qual (defScope st) f cdv A outer s H E) (defBody st) t ∧ t { nx := fun _ H2 => Q .non H2, rt := Q } (L2.start N [.ref a]) H := fun M hd hi hS => by
    refine ⟨_, body M ns hS cdv A outer s H E hr, ?_⟩
    have g := gr_nil hi
    refine ⟨fun _ => none, H, fun _ => none, startE N.length [.hand], { nx := fun _ => False, rt := fun d => ∃ (cells : List Int) (m : Int), d = .lst [.lst (cells.map D.int), .int 0, .int 0, .int m, .int 0], ex := fun _ => False }, ⟨g, eok_start g (vs := [.ref a]) (.cons (d := .hand) (by rw [← hd]; rfl) rfl)⟩, law _ fun cells m => ⟨cells, m, rfl⟩, fun _ _ _ _ _ _ z => z.elim, fun _ _ _ _ _ _ z => z.elim, fun _ _ _ _ _ _ z => z.elim, fun v H' F' d g' r' hd' => ?_, fun _ _ _ _ _ _ _ _ z => z.elim⟩
    obtain ⟨cells, m, rfl⟩ := hd'
    obtain ⟨p, us, rfl, hp, r⟩ := r'
    obtain ⟨u, us', rfl, r0, r⟩ := r
    obtain ⟨q, vs', rfl, hq', r0⟩ := r0
    obtain ⟨x1, r, rfl, rfl, q1⟩ := r
    obtain ⟨x2, r, rfl, rfl, q1⟩ := q1
    obtain ⟨x3, r, rfl, rfl, q1⟩ := q1
    obtain ⟨x4, r, rfl, rfl, q1⟩ := q1
    obtain rfl : r = [] := q1
    have e0 := RepL.ints r0
    subst e0
    refine hq H' p q cells m (fun e => ?_) (g'.inn _ _ hp) (g'.inn _ _ hq')
    subst e
    rw [hp] at hq'
    have := congrArg (fun o => match o with | some (HO.lst (V.ref _ :: _)) => true | _ => false) hq'
    cases cells <;> cases this
  rcases hs with (h | ⟨o, h⟩) | h
  · exact key ⟨fun b => b = a, fun H => H a = some (.lst (ns.map V.int)), a, fun _ => 0, a, fun H H' e i => (e a rfl).trans i, fun H b i e => by rw [show b = a from e, i]; exact fun z => by cases z⟩ rfl h fun H i => .inl (.inl i)
  · exact key ⟨fun b => b = a, fun H => H a = some (.frz o (.lst (ns.map V.int))), a, fun _ => 0, a, fun H H' e i => (e a rfl).trans i, fun H b i e => by rw [show b = a from e, i]; exact fun z => by cases z⟩ rfl h fun H i => .inl (.inr ⟨o, i⟩)
  · exact key ⟨fun _ => False, fun _ => True, a, fun _ => 0, a, fun _ _ _ _ => trivial, fun _ _ _ e => e.elim⟩ rfl trivial fun H _ => .inr h
/-- the law's own promise -/
def spLaw (K : PySem.W.Frag) : Sp := fun vs H Q _ => ∃ (a : Addr) (ns : List Int), vs = [.ref a] ∧ SqL K H a (ns.map V.int) ∧ ∀ H', Q (.bl true) H'
/-- the hand beside which the law runs -/
def handAm (w : World) (p q : Addr) : Am where
  fp := fun b => b = p ∨ b = q
  inv := fun H => ∃ (cells : List Int) (i r m n : Int), H p = some (.lst [.ref q, .int i, .int r, .int m, .int n]) ∧ H q = some (.lst (cells.map V.int)) ∧ 0 ≤ i
  hd := p
  hash := NestedKey.hash w
  self := p
  stab := fun H H' e ⟨cells, i, r, m, n, h1, h2, h3⟩ => ⟨cells, i, r, m, n, (e p (.inl rfl)).trans h1, (e q (.inr rfl)).trans h2, h3⟩
  tr := fun H b ⟨cells, i, r, m, n, h1, h2, h3⟩ e => by
    rcases e with e | e
    · rw [e, h1]; exact fun z => by cases z
    · rw [e, h2]; exact fun z => by cases z
theorem handAm_ok {w : World} {p q : Addr} (h : p ≠ q) : AmOk w (handAm w p q) := ⟨rfl, q, h, fun _ => Iff.rfl, fun _ => Iff.rfl⟩
/-- the law: first the hand, then what is told by data -/
theorem law_of {P : Program} {w : World} {K : PySem.W.Frag} {mg : Str → Option Value} {base : Heap} {k : Nat} {x qual : Str} {st : Stmt} {f f2 : Addr} {fd fd2 : FuncData} {N : List Str} {s0 hn : Str} {t : DS} {tg e : Expr} {pos p cpos : Pos} {rest : List Stmt} (F : Fun K x qual st f fd) (S : FnScope N [s0] (defScope st))
    (hb : defBody st = .Assign [tg] (.Call (.Name hn p) [e] [] cpos) pos :: rest)
    (hH : FnG P w K mg base k f2 fd2 [s0] (spHand K)) (gm : mg hn = some (.ref f2)) (kp : PySem.W.keepIn K (.ref f2) = true) (b2 : Binds K fd2 [s0] [])
    (first : ∀ (cdv : Value) (A : Around) (outer : List PySem.Env) (s : Shared) (H : Hp) (E : XK) (te : TE), PE (bodyCx P w K mg base N qual st f cdv A outer s H E) (.Call (.Name hn p) [e] [] cpos) te → PS (bodyCx P w K mg base N qual st f cdv A outer s H E) (.Assign [tg] (.Call (.Name hn p) [e] [] cpos) pos) (tAsg te (gName 1)))
    (arg : ∀ (cdv : Value) (A : Around) (outer : List PySem.Env) (s : Shared) (H : Hp) (E : XK), PE (bodyCx P w K mg base N qual st f cdv A outer s H E) e (tVar 0))
    (hg : ∀ (cdv : Value) (A : Around) (outer : List PySem.Env) (s : Shared) (H : Hp) (E : XK), Gl (bodyCx P w K mg base N qual st f cdv A outer s H E) hn)
    (pl : ∀ (cdv : Value) (A : Around) (outer : List PySem.Env) (s : Shared) (H : Hp) (E : XK), (hn == ("__debug__" : Str)) = false ∧ starEach [e] (bodyCx P w K mg base N qual st f cdv A outer s H E).env = [(false, eval e (bodyCx P w K mg base N qual st f cdv A outer s H E).env)] ∧ (backTo cpos (starEach ([] : List Expr) (bodyCx P w K mg base N qual st f cdv A outer s H E).env)).any (·.1) = false)
    (body : ∀ (M : Am) (_ : AmOk w M) (cdv : Value) (A : Around) (outer : List PySem.Env) (s : Shared) (H : Hp) (E : XK), RoomG k (A.deeper (envOfC qual (defScope st) s.heap.objs.size f cdv)) →
      PuSs M (bodyW E) (bodyCx P w K mg base N qual st f cdv A outer s H E) rest t)
    (hN : 2 ≤ N.length)
    (law : t { nx := fun _ => False, rt := fun d => d = .bl true, ex := fun _ => False } (none :: some (.val .hand) :: List.replicate (N.length - 2) none)) :
    FnG P w K mg base (k + 1) f fd [s0] (spLaw K) := by
  refine fng_of F S (fun vs H Q E ⟨a, ns, e, _⟩ => by rw [e]; rfl) fun cdv A outer s H vs Q E hr ⟨a, ns, e1, hs, hq⟩ => ?_
  subst e1
  rw [hb]
  obtain ⟨pl1, pl2, pl3⟩ := pl cdv A outer s H E
  have tk : Takes (bodyCx P w K mg base N qual st f cdv A outer s H E) (bodyW E) := takes_body
  have call := g_call (p := p) (E := WE (bodyW E)) hH hr (hg cdv A outer s H E) gm kp b2 (fun σ => passAt tk σ) (pa_cons (arg cdv A outer s H E) pa_nil pl2) pl1 pl2 pl3
  refine ⟨_, pss_cons (first cdv A outer s H E _ call) (⟨fun pins s' σ H' D I ⟨M, hM, h⟩ => (body M hM cdv A outer s H E hr).run pins s' σ H' D I h⟩ : PSs _ rest fun D σ H' => ∃ M, AmOk w M ∧ tS M (bodyW E) (bodyCx P w K mg base N qual st f cdv A outer s H E) t D σ H'), ?_⟩
  refine ⟨.ref a, rfl, a, ns, rfl, hs, fun H1 p q cells m npq hp hq' => ?_⟩
  refine ⟨handAm w p q, handAm_ok npq, ?_⟩
  have hi : (handAm w p q).inv H1 := ⟨cells, 0, 0, m, 0, hp, hq', Int.le_refl 0⟩
  have g := gr_nil hi
  refine ⟨fun _ => none, H1, fun _ => none, none :: some (.val .hand) :: List.replicate (N.length - 2) none, _, ⟨g, ?_⟩, law, fun _ _ _ _ _ _ z => z.elim, fun _ _ _ _ _ _ z => z.elim, fun _ _ _ _ _ _ z => z.elim, fun v H' F' d g' r hd => ?_, fun _ _ _ _ _ _ _ _ z => z.elim⟩
  · have only : ∀ (i : Nat) c, (none :: some (C.val .hand) :: List.replicate (N.length - 2) none : DEnv)[i]? = some (some c) → i = 1 ∧ c = .val .hand := fun i c h => by
      match i, h with
      | 0, h => cases h
      | 1, h => cases h; exact ⟨rfl, rfl⟩
      | i + 2, h =>
        have h : (List.replicate (N.length - 2) (none : Option C))[i]? = some (some c) := h
        rw [List.getElem?_replicate] at h
        split at h <;> cases h
    refine ⟨g.inn, g.off, hi, ?_, fun i c h => ?_, fun i d a h _ => ?_, fun i j d e a h _ _ _ => ?_⟩
    · unfold L2.start
      simp
      omega
    · obtain ⟨rfl, rfl⟩ := only i c h
      refine ⟨.ref p, ?_, rfl⟩
      rw [List.getElem?_set_self]
      unfold L2.start
      simp
      omega
    · obtain ⟨_, z⟩ := only i _ h; cases z
    · obtain ⟨_, z⟩ := only i _ h; cases z
  · subst hd
    obtain rfl : v = .bl true := r
    exact hq H'
end PL
set_option Elab.async false
set_option linter.all false
set_option maxRecDepth 100000
namespace PL
open PySem PySem.Spec PyProof.Rows L2

/-- a promise of nothing -/
theorem has_false {P : Program} {w : World} {K : PySem.W.Frag} {mg : Str → Option Value} {base : Heap} {k np : Nat} {x qual : Str} {st : Stmt} {f : Addr} {fd : FuncData} {ps : List Str} (F : Fun K x qual st f fd) (hp : ps.length = np) (gx : mg x = some (.ref f)) (b : Binds K fd ps []) : Has P w K mg base k x np (fun _ _ _ => False) :=
  ⟨f, fd, ps, hp, gx, F.kp, b, fun M h => ⟨fun vs H Q E ⟨_, _, _, _, _, _, _, z, _⟩ => z.elim, fun A o s H ar us vs Q E hr e b v ⟨_, _, _, _, _, _, _, z, _⟩ => z.elim⟩⟩
/-! ## the law's def is called behind the top -/
/-- what stands in the heap behind the top -/
structure Top (K : PySem.W.Frag) (mg : Str → Option Value) (st : Shared) : Prop where
  kin : K.In st.heap
  ns : st.heap.Ns mainGlobals mg
  bl : ∃ mb, st.heap.Ns builtinsNs mb ∧ ∀ x : Str, x ≠ "__name__" → mb x = bootBuiltins x
  lim : st.heap.NoLimit
  gens : st.gens = #[]
/-- the script's object -/
abbrev scrO (us : List Value) : Obj := { cls := .type "list", data := .seq us.toArray }
/-- told is at most the script, as the thing that it is -/
structure Told (K : PySem.W.Frag) (H : Hp) (scr : Addr) (us : List Value) (zs : List Int) : Prop where
  at_ : ∀ b u, H b = some u → b = scr ∧ u = .frz (scrO us) (.lst (zs.map V.int)) ∧ K.lookup scr = none
  sq : SqL K H scr (zs.map V.int)
theorem run_law {P : Program} {w : World} {K : PySem.W.Frag} {mg : Str → Option Value} {st : Shared} {H : Hp} {f scr : Addr} {fd : FuncData} {us : List Value} {zs : List Int} {k : Nat} {s0 : Str} {sp : Sp}
    (T : Top K mg st) (D : Told K H scr us zs) (isL : st.heap.get? scr = some (scrO us)) (rv : Vals (zs.map V.int) us) (room : RoomG k callerA)
    (ok : HOk P w H st.heap) (go : ∀ base : Heap, K.In base → base.Ns mainGlobals mg → FnG P w K mg base k f fd [s0] sp) (bd : BindsTo st fd ⟨[.ref scr], []⟩ [(s0, .ref scr)])
    (h : sp [.ref scr] H (fun v _ => v = .bl true) (fun _ _ _ => False)) :
    codeAny (model P w) callerA (.call (.ref f) ⟨[.ref scr], []⟩) (fun r s' => r = .ok (.ret (.bool true)) ∧ OldK st.heap s'.heap ∧ s'.os = st.os ∧ AllBare s'.gens) st := by
  have dict0 : ∀ {b : Addr} {o : Obj} {es : Array DictEntry} {ep : Nat}, st.heap.get? b = some o → o.data = .dict es ep → H b = none := by
    intro b o es ep e1 e2
    cases hb : H b with
    | none => rfl
    | some u =>
      obtain ⟨rfl, _, _⟩ := D.at_ b u hb
      rw [isL] at e1
      cases e1
      cases e2
  have keepNs : ∀ {b : Addr} {m : Str → Option Value}, st.heap.Ns b m → (hidT st.heap H).Ns b m := by
    rintro b m ⟨o, es, ep, e1, e2, e3⟩
    exact ⟨o, es, ep, hidT_get e1 (dict0 e1 e2), e2, e3⟩
  have keepK : K.In (hidT st.heap H) := by
    intro b o e1
    refine hidT_get (T.kin b o e1) ?_
    cases hb : H b with
    | none => rfl
    | some u =>
      obtain ⟨rfl, _, z⟩ := D.at_ b u hb
      rw [z] at e1
      cases e1
  obtain ⟨mb, m1, m2⟩ := T.bl
  obtain ⟨mc, l1, l2⟩ := T.lim
  have env0 : Env0 P w K mg (hidT st.heap H) callerA [] st H :=
    ⟨rfl, ⟨keepK, keepNs T.ns, ⟨mb, keepNs m1, m2⟩, ⟨mc, keepNs l1, l2⟩⟩, fun _ _ z => of_hidT z, Nat.le_of_eq (hidT_size _ _), trivial, fun _ z => (List.not_mem_nil z).elim, ok, .of_eq T.gens⟩
  refine codeAny_mono ((go _ keepK (keepNs T.ns)).go callerA [] st H ⟨[.ref scr], []⟩ [.ref scr] [.ref scr] _ _ room env0 bd (.cons rfl .nil) h) ?_
  rintro (e | (_ | _ | _ | u)) s' hq
  · obtain ⟨_, _, _, _, z⟩ := hq
    first
      | exact z.elim
      | simp at z
  · exact hq.elim
  · exact hq.elim
  · exact hq.elim
  · obtain ⟨v, H', os, bare, un, ok', rr, rfl⟩ := hq
    obtain rfl : u = Value.bool true := rr
    refine ⟨rfl, .of_keep fun b o e1 => ?_, os, bare⟩
    cases hb : H b with
    | none => exact un.keep b o e1 hb (fun z => List.not_mem_nil z) List.not_mem_nil
    | some u =>
      obtain ⟨rfl, rfl, _⟩ := D.at_ b u hb
      obtain ⟨e2, _⟩ := ok b _ hb
      obtain ⟨e3, _⟩ := ok' b _ (un.frzs b _ _ hb)
      rw [e2] at e1
      cases e1
      exact e3
/-- the whole: what the head leaves, from the law's promise -/
theorem walk_g {l : PySem.W.OpenLaw} {n k : Nat} {q : Program} {loose : List Str} {XP : (Str → Option Value) → Heap → Prop} {YP : World → Heap → Prop} {d : DefRec} {K : Params → PySem.W.Frag} {s0 : Str}
    (most : l.most = some n) (small : n ≤ sizeLine) (plain : d.params.defaults = []) (room : RoomG k callerA) (inY : ∀ (w : World) (h : Heap), YP w h → (K w.params).In h)
    (defs : ∀ (w : World) (mg : Str → Option Value) (fa : Addr) (h : Heap), (K w.params).In h → h.Ns mainGlobals mg → mg d.name = some (.ref fa) → ∃ fd : FuncData,
      (∀ (s : Shared) (u : Value), BindsTo s fd ⟨[u], []⟩ [(s0, u)]) ∧ ∀ base : Heap, (K w.params).In base → base.Ns mainGlobals mg → FnG l.prog w (K w.params) mg base k fa fd [s0] (spLaw (K w.params))) :
    PySem.W.WalkO q loose XP YP l.row.toRowW d [] (fun f vs => PySem.call f vs) := by
  refine Att.attach_call most plain ?_
  intro w s₀ st mg mb fa o pm cd doc scr us zs G Y ho hd hcd hmg isL areI len gens
  have kin := inY w _ Y
  obtain ⟨fd, bd, go⟩ := defs w mg fa _ kin G.T.g hmg
  have rv := vals_ints areI
  have T : Top (K w.params) mg st := ⟨kin, G.T.g, ⟨mb, G.T.b, G.T.builtins⟩, G.T.nolimit, gens⟩
  have zl : zs.length ≤ sizeLine := Nat.le_trans len small
  have ul : us.length = zs.length := by
    have := rv.length
    rw [List.length_map] at this
    exact this.symm
  cases hk : (K w.params).lookup scr with
  | some o' =>
    have e1 := kin scr o' hk
    rw [isL] at e1
    obtain rfl : scrO us = o' := Option.some.inj e1
    have D : Told (K w.params) (fun _ => none) scr us zs := ⟨fun b u z => (by cases z), .inr ⟨_, us.toArray, _, hk, rfl, rfl, rfl, by rw [List.size_toArray, ul]; exact zl, by simpa using rv⟩⟩
    exact run_law T D isL rv room (fun _ _ z => (by cases z)) go (bd st _) ⟨scr, zs, rfl, D.sq, fun _ => rfl⟩
  | none =>
    have at1 : ∀ b u, (fun b => if b = scr then some (HO.frz (scrO us) (.lst (zs.map V.int))) else none : Hp) b = some u → b = scr ∧ u = .frz (scrO us) (.lst (zs.map V.int)) := by
      intro b u z
      by_cases hb : b = scr
      · subst hb
        exact ⟨rfl, (Option.some.inj ((if_pos rfl).symm.trans z)).symm⟩
      · cases (if_neg hb).symm.trans z
    have D : Told (K w.params) (fun b => if b = scr then some (HO.frz (scrO us) (.lst (zs.map V.int))) else none) scr us zs :=
      ⟨fun b u z => ⟨(at1 b u z).1, (at1 b u z).2, hk⟩, .inl (.inr ⟨scrO us, if_pos rfl⟩)⟩
    refine run_law T D isL rv room (fun b u z => ?_) go (bd st _) ⟨scr, zs, rfl, D.sq, fun _ => rfl⟩
    obtain ⟨rfl, rfl⟩ := at1 b u z
    exact ⟨isL, by rw [List.length_map]; exact zl, us, _, rv, isL⟩
end PL
set_option Elab.async false
set_option linter.all false
/-! ## tables of groups, in plain words -/
namespace GT
abbrev Tb := List (List Nat)
def ent (t : Tb) (a b : Nat) : Nat := (t.getD a []).getD b 0
structure IsTab (t : Tb) (n : Nat) : Prop where
  len : t.length = n
  row : ∀ r ∈ t, r.length = n ∧ ∀ x ∈ r, x < n
theorem getD_mem {α : Type} {l : List α} {i : Nat} {d : α} (h : i < l.length) : l.getD i d ∈ l := by
  rw [List.getD_eq_getElem?_getD, List.getElem?_eq_getElem h]
  exact List.getElem_mem h
theorem IsTab.rowlen {t : Tb} {n : Nat} (h : IsTab t n) {a : Nat} (ha : a < n) : (t.getD a []).length = n := (h.row _ (getD_mem (by rw [h.len]; exact ha))).1
theorem IsTab.lt {t : Tb} {n : Nat} (h : IsTab t n) {a b : Nat} (ha : a < n) (hb : b < n) : ent t a b < n :=
  (h.row _ (getD_mem (by rw [h.len]; exact ha))).2 _ (getD_mem (by rw [h.rowlen ha]; exact hb))
structure Grp (t : Tb) (n : Nat) : Prop extends IsTab t n where
  pos : 0 < n
  oneL : ∀ a, a < n → ent t 0 a = a
  oneR : ∀ a, a < n → ent t a 0 = a
  back : ∀ a, a < n → ∃ b, b < n ∧ ent t a b = 0
  assoc : ∀ a b c, a < n → b < n → c < n → ent t (ent t a b) c = ent t a (ent t b c)
section
variable {t : Tb} {n : Nat}
/-- a right back is a left one -/
theorem Grp.backL (G : Grp t n) {a b : Nat} (ha : a < n) (hb : b < n) (h : ent t a b = 0) : ent t b a = 0 := by
  obtain ⟨c, hc, e⟩ := G.back b hb
  have h1 : ent t (ent t a b) c = ent t a (ent t b c) := G.assoc a b c ha hb hc
  rw [h, e, G.oneL c hc, G.oneR a ha] at h1
  rw [← h1]; exact e
theorem Grp.cancelR (G : Grp t n) {a b x : Nat} (ha : a < n) (hb : b < n) (hx : x < n) (h : ent t a x = ent t b x) : a = b := by
  obtain ⟨y, hy, e⟩ := G.back x hx
  have h1 := G.assoc a x y ha hx hy
  have h2 := G.assoc b x y hb hx hy
  rw [e, G.oneR a ha] at h1
  rw [e, G.oneR b hb] at h2
  rw [← h1, ← h2, h]
theorem Grp.cancelL (G : Grp t n) {a b x : Nat} (ha : a < n) (hb : b < n) (hx : x < n) (h : ent t x a = ent t x b) : a = b := by
  obtain ⟨y, hy, e⟩ := G.back x hx
  have e2 := G.backL hx hy e
  have h1 := G.assoc y x a hy hx ha
  have h2 := G.assoc y x b hy hx hb
  rw [e2, G.oneL a ha] at h1
  rw [e2, G.oneL b hb] at h2
  rw [h1, h2, h]
/-! ### powers -/
def pw (t : Tb) (x : Nat) : Nat → Nat
  | 0 => 0
  | k + 1 => ent t (pw t x k) x
theorem Grp.pw_lt (G : Grp t n) {x : Nat} (hx : x < n) : ∀ k, pw t x k < n
  | 0 => G.pos
  | k + 1 => G.toIsTab.lt (G.pw_lt hx k) hx
theorem Grp.pw_add (G : Grp t n) {x : Nat} (hx : x < n) (i : Nat) : ∀ j, pw t x (i + j) = ent t (pw t x i) (pw t x j)
  | 0 => by rw [Nat.add_zero, pw, G.oneR _ (G.pw_lt hx i)]
  | j + 1 => by
    rw [← Nat.add_assoc, pw, G.pw_add hx i j, pw, G.assoc _ _ _ (G.pw_lt hx i) (G.pw_lt hx j) hx]
theorem pw_one (G : Grp t n) {x : Nat} (hx : x < n) : pw t x 1 = x := by rw [pw, pw, G.oneL x hx]
theorem Grp.pw_zero (G : Grp t n) : ∀ k, pw t 0 k = 0
  | 0 => rfl
  | k + 1 => by rw [pw, G.pw_zero k, G.oneL 0 G.pos]
/-- of n + 1 numbers below n two are one -/
theorem pigeon (n : Nat) : ∀ f : Nat → Nat, (∀ i, i ≤ n → f i < n) → ∃ i j, i < j ∧ j ≤ n ∧ f i = f j := by
  induction n with
  | zero => intro f h; exact absurd (h 0 (Nat.le_refl 0)) (Nat.not_lt_zero _)
  | succ n ih =>
    intro f h
    by_cases q : ∃ i, i < n + 1 ∧ f i = f (n + 1)
    · obtain ⟨i, hi, e⟩ := q
      exact ⟨i, n + 1, hi, Nat.le_refl _, e⟩
    · have q' : ∀ i, i < n + 1 → f i ≠ f (n + 1) := fun i hi e => q ⟨i, hi, e⟩
      -- put the value n in the place of the last one
      have hl : f (n + 1) < n + 1 := h _ (Nat.le_refl _)
      obtain ⟨i, j, hij, hj, e⟩ := ih (fun i => if f i = n then f (n + 1) else f i) (fun i hi => by
        have h1 := h i (by omega)
        have h2 := q' i (by omega)
        show (if f i = n then f (n + 1) else f i) < n
        split
        · rename_i z; rw [z] at h2; omega
        · omega)
      refine ⟨i, j, hij, by omega, ?_⟩
      have h1 := q' i (by omega)
      have h2 := q' j (by omega)
      have e : (if f i = n then f (n + 1) else f i) = (if f j = n then f (n + 1) else f j) := e
      split at e <;> split at e <;> omega
theorem Grp.pw_cancel (G : Grp t n) {x : Nat} (hx : x < n) (d : Nat) : ∀ i, pw t x i = pw t x (i + d) → pw t x d = 0
  | 0, h => by rw [Nat.zero_add] at h; exact h.symm
  | i + 1, h => by
    refine G.pw_cancel hx d i (G.cancelR (G.pw_lt hx _) (G.pw_lt hx _) hx ?_)
    have e : i + 1 + d = (i + d) + 1 := by omega
    rw [e] at h
    exact h
theorem Grp.pw_ends (G : Grp t n) {x : Nat} (hx : x < n) : ∃ k, 0 < k ∧ k ≤ n ∧ pw t x k = 0 := by
  obtain ⟨i, j, hij, hj, e⟩ := pigeon n (pw t x) fun i _ => G.pw_lt hx i
  refine ⟨j - i, by omega, by omega, G.pw_cancel hx _ i ?_⟩
  rw [show i + (j - i) = j by omega]; exact e
/-- the least k from k0 on at which p holds, at most f places further -/
def least (p : Nat → Bool) : Nat → Nat → Nat
  | 0, k => k
  | f + 1, k => if p k then k else least p f (k + 1)
theorem least_spec {p : Nat → Bool} : ∀ (f k m : Nat), k ≤ m → m < k + f → p m = true → k ≤ least p f k ∧ least p f k ≤ m ∧ p (least p f k) = true ∧ ∀ i, k ≤ i → i < least p f k → p i = false
  | 0, k, m, h1, h2, _ => by omega
  | f + 1, k, m, h1, h2, hp => by
    unfold least
    by_cases z : p k = true
    · rw [if_pos z]; exact ⟨Nat.le_refl _, h1, z, fun i a b => by omega⟩
    · rw [if_neg z]
      have hk : k ≠ m := fun e => z (e ▸ hp)
      obtain ⟨a, b, c, d⟩ := least_spec f (k + 1) m (by omega) (by omega) hp
      refine ⟨by omega, b, c, fun i hi hl => ?_⟩
      by_cases q : i = k
      · subst q; simpa using z
      · exact d i (by omega) hl
/-- how often a member makes the one -/
def ord (t : Tb) (x : Nat) : Nat := least (fun k => pw t x k == 0) t.length 1
theorem Grp.ord_spec (G : Grp t n) {x : Nat} (hx : x < n) : 0 < ord t x ∧ ord t x ≤ n ∧ pw t x (ord t x) = 0 ∧ ∀ k, 0 < k → k < ord t x → pw t x k ≠ 0 := by
  obtain ⟨k, k0, kn, e⟩ := G.pw_ends hx
  obtain ⟨a, b, c, d⟩ := least_spec (p := fun k => pw t x k == 0) t.length 1 k (by omega) (by rw [G.len]; omega) (by rw [e]; rfl)
  refine ⟨a, Nat.le_trans b kn, beq_iff_eq.mp c, fun i hi hl e => ?_⟩
  have := d i hi hl
  simp [e] at this
theorem Grp.ord_unique (G : Grp t n) {x k : Nat} (hx : x < n) (k0 : 0 < k) (e : pw t x k = 0) (l : ∀ i, 0 < i → i < k → pw t x i ≠ 0) : ord t x = k := by
  obtain ⟨a, b, c, d⟩ := G.ord_spec hx
  rcases Nat.lt_trichotomy (ord t x) k with h | h | h
  · exact absurd c (l _ a h)
  · exact h
  · exact absurd e (d _ k0 h)
/-- x so often is the one just where the order divides -/
theorem Grp.pw_mul (G : Grp t n) {x : Nat} (hx : x < n) (m : Nat) : pw t x (ord t x * m) = 0 := by
  induction m with
  | zero => rfl
  | succ m ih => rw [Nat.mul_succ, G.pw_add hx, ih, (G.ord_spec hx).2.2.1, G.oneL 0 G.pos]
theorem Grp.pw_mod (G : Grp t n) {x : Nat} (hx : x < n) (k : Nat) : pw t x (k % ord t x) = pw t x k := by
  have h := Nat.div_add_mod k (ord t x)
  have h2 := G.pw_add hx (ord t x * (k / ord t x)) (k % ord t x)
  rw [h, G.pw_mul hx, G.oneL _ (G.pw_lt hx _)] at h2
  exact h2.symm
theorem Grp.pw_dvd (G : Grp t n) {x k : Nat} (hx : x < n) : pw t x k = 0 ↔ ord t x ∣ k := by
  constructor
  · intro h
    have a := (G.ord_spec hx).1
    rw [← G.pw_mod hx] at h
    by_cases z : k % ord t x = 0
    · exact Nat.dvd_of_mod_eq_zero z
    · exact absurd h ((G.ord_spec hx).2.2.2 _ (by omega) (Nat.mod_lt _ a))
  · rintro ⟨m, rfl⟩; exact G.pw_mul hx m
/-! ### the same under other names -/
structure Iso (t t' : Tb) (n : Nat) (f g : Nat → Nat) : Prop where
  fl : ∀ a, a < n → f a < n
  gl : ∀ a, a < n → g a < n
  gf : ∀ a, a < n → g (f a) = a
  fg : ∀ a, a < n → f (g a) = a
  f0 : f 0 = 0
  en : ∀ a b, a < n → b < n → ent t' a b = g (ent t (f a) (f b))
theorem Iso.g0 {t t' : Tb} {f g : Nat → Nat} (I : Iso t t' n f g) (h : 0 < n) : g 0 = 0 := by
  have := I.gf 0 h; rwa [I.f0] at this
theorem Iso.fen {t t' : Tb} {f g : Nat → Nat} (I : Iso t t' n f g) (T : IsTab t n) {a b : Nat} (ha : a < n) (hb : b < n) : f (ent t' a b) = ent t (f a) (f b) := by
  rw [I.en a b ha hb, I.fg _ (T.lt (I.fl a ha) (I.fl b hb))]
theorem Iso.grp {t' : Tb} {f g : Nat → Nat} (I : Iso t t' n f g) (G : Grp t n) (T : IsTab t' n) : Grp t' n where
  toIsTab := T
  pos := G.pos
  oneL := fun a ha => by rw [I.en 0 a G.pos ha, I.f0, G.oneL _ (I.fl a ha), I.gf a ha]
  oneR := fun a ha => by rw [I.en a 0 ha G.pos, I.f0, G.oneR _ (I.fl a ha), I.gf a ha]
  back := fun a ha => by
    obtain ⟨b, hb, e⟩ := G.back (f a) (I.fl a ha)
    refine ⟨g b, I.gl b hb, ?_⟩
    rw [I.en a _ ha (I.gl b hb), I.fg b hb, e, I.g0 G.pos]
  assoc := fun a b c ha hb hc => by
    have h1 := T.lt ha hb
    have h2 := T.lt hb hc
    rw [I.en _ c h1 hc, I.en a _ ha h2, I.fen G.toIsTab ha hb, I.fen G.toIsTab hb hc, G.assoc _ _ _ (I.fl a ha) (I.fl b hb) (I.fl c hc)]
theorem Iso.pw {t' : Tb} {f g : Nat → Nat} (I : Iso t t' n f g) (G : Grp t n) (T : IsTab t' n) {x : Nat} (hx : x < n) : ∀ k, f (GT.pw t' x k) = GT.pw t (f x) k
  | 0 => I.f0
  | k + 1 => by
    show f (ent t' (GT.pw t' x k) x) = ent t (GT.pw t (f x) k) (f x)
    rw [I.fen G.toIsTab ((I.grp G T).pw_lt hx k) hx, I.pw G T hx k]
theorem Iso.ord {t' : Tb} {f g : Nat → Nat} (I : Iso t t' n f g) (G : Grp t n) (T : IsTab t' n) {x : Nat} (hx : x < n) : GT.ord t' x = GT.ord t (f x) := by
  have G' := I.grp G T
  obtain ⟨a, b, c, d⟩ := G.ord_spec (I.fl x hx)
  refine G'.ord_unique hx a ?_ fun i i0 il e => ?_
  · have := I.pw G T hx (GT.ord t (f x))
    rw [c] at this
    have h2 := congrArg g this
    rwa [I.gf _ (G'.pw_lt hx _), I.g0 G.pos] at h2
  · have := I.pw G T hx i
    rw [e, I.f0] at this
    exact d i i0 il this.symm
end
end GT
set_option Elab.async false
set_option linter.all false
/-! ## a table is judged by few makers -/
namespace GT
def comp (ra rg : List Nat) : List Nat := rg.map fun c => ra.getD c 0
def makes (t : Tb) (gs : List Nat) : Nat → List Nat → List Nat → List Nat
  | 0, _, seen => seen
  | _, [], seen => seen
  | f + 1, b :: todo, seen =>
    let new := (gs.map fun g => ent t b g).filter fun x => !seen.contains x
    makes t gs f (todo ++ new) (seen ++ new)
inductive Made (t : Tb) (gs : List Nat) : Nat → Prop
  | one : Made t gs 0
  | step {b g : Nat} : Made t gs b → g ∈ gs → Made t gs (ent t b g)
theorem makes_made (t : Tb) (gs : List Nat) : ∀ (f : Nat) (todo seen : List Nat), (∀ x ∈ todo, Made t gs x) → (∀ x ∈ seen, Made t gs x) → ∀ x ∈ makes t gs f todo seen, Made t gs x
  | 0, _, _, _, h2 => h2
  | f + 1, [], _, _, h2 => h2
  | f + 1, b :: todo, seen, h1, h2 => by
    have hn : ∀ x ∈ (gs.map fun g => ent t b g).filter (fun x => !seen.contains x), Made t gs x := fun x hx => by
      obtain ⟨hx, _⟩ := List.mem_filter.mp hx
      obtain ⟨g, hg, rfl⟩ := List.mem_map.mp hx
      exact .step (h1 b List.mem_cons_self) hg
    refine makes_made t gs f _ _ (fun x hx => ?_) (fun x hx => ?_)
    · rcases List.mem_append.mp hx with h | h
      · exact h1 x (List.mem_cons_of_mem _ h)
      · exact hn x h
    · rcases List.mem_append.mp hx with h | h
      · exact h2 x h
      · exact hn x h
def tabB (t : Tb) (n : Nat) : Bool := t.length == n && t.all fun r => r.length == n && r.all fun x => Nat.blt x n
def grpB (t : Tb) (n : Nat) (gs : List Nat) : Bool :=
  tabB t n && Nat.blt 0 n && (t.getD 0 [] == List.range n) && (t.map (fun r => r.getD 0 0) == List.range n) && t.all (fun r => r.contains 0) &&
  gs.all (fun g => Nat.blt g n && t.all fun ra => t.getD (ra.getD g 0) [] == comp ra (t.getD g [])) &&
  (let m := makes t gs (n + 1) [0] [0]; (List.range n).all fun b => m.contains b)
theorem tabB_ok {t : Tb} {n : Nat} (h : tabB t n = true) : IsTab t n := by
  unfold tabB at h
  simp only [Bool.and_eq_true, beq_iff_eq, List.all_eq_true, Nat.blt_eq] at h
  exact ⟨h.1, h.2⟩
theorem grpB_ok {t : Tb} {n : Nat} {gs : List Nat} (h : grpB t n gs = true) : Grp t n := by
  unfold grpB at h
  simp only [Bool.and_eq_true] at h
  obtain ⟨⟨⟨⟨⟨⟨h1, h2⟩, h3⟩, h4⟩, h5⟩, h6⟩, h7⟩ := h
  have T := tabB_ok h1
  have pos : 0 < n := Nat.blt_eq ▸ h2
  have h3 := beq_iff_eq.mp h3
  have h4 := beq_iff_eq.mp h4
  have eL : ∀ a, a < n → ent t 0 a = a := fun a ha => by
    unfold ent; rw [h3, List.getD_eq_getElem?_getD, List.getElem?_range ha]; rfl
  have eR : ∀ a, a < n → ent t a 0 = a := fun a ha => by
    have e : (t.map (fun r => r.getD 0 0))[a]? = some (ent t a 0) := by
      rw [List.getElem?_map]
      unfold ent
      rw [List.getD_eq_getElem?_getD (l := t), List.getElem?_eq_getElem (by rw [T.len]; exact ha)]
      rfl
    rw [h4, List.getElem?_range ha] at e
    exact (Option.some.inj e).symm
  -- a maker in the middle
  have mid : ∀ g ∈ gs, ∀ a c, a < n → c < n → ent t (ent t a g) c = ent t a (ent t g c) := fun g hg a c ha hc => by
    have := List.all_eq_true.mp h6 g hg
    simp only [Bool.and_eq_true, Nat.blt_eq, List.all_eq_true, beq_iff_eq] at this
    obtain ⟨gl, q⟩ := this
    have q := q _ (getD_mem (d := []) (by rw [T.len]; exact ha))
    unfold ent
    rw [q]
    unfold comp
    rw [List.getD_eq_getElem?_getD, List.getElem?_map, List.getElem?_eq_getElem (by rw [T.rowlen gl]; exact hc), List.getD_eq_getElem?_getD (l := t.getD g []), List.getElem?_eq_getElem (by rw [T.rowlen gl]; exact hc)]
    rfl
  have gl : ∀ g ∈ gs, g < n := fun g hg => by
    have := List.all_eq_true.mp h6 g hg
    simp only [Bool.and_eq_true, Nat.blt_eq] at this
    exact this.1
  have all : ∀ b, Made t gs b → b < n ∧ ∀ a c, a < n → c < n → ent t (ent t a b) c = ent t a (ent t b c) := by
    intro b hb
    induction hb with
    | one => exact ⟨pos, fun a c ha hc => by rw [eR a ha, eL c hc]⟩
    | @step b g hb hg ih =>
      obtain ⟨hb, ih⟩ := ih
      refine ⟨T.lt hb (gl g hg), fun a c ha hc => ?_⟩
      rw [← ih a g ha (gl g hg), mid g hg _ c (T.lt ha hb) hc, ih a _ ha (T.lt (gl g hg) hc), mid g hg b c hb hc]
  refine ⟨T, pos, eL, eR, fun a ha => ?_, fun a b c ha hb hc => ?_⟩
  · have := List.all_eq_true.mp h5 _ (getD_mem (d := []) (by rw [T.len]; exact ha))
    have := List.elem_iff.mp this
    obtain ⟨i, hi, e⟩ := List.mem_iff_getElem.mp this
    refine ⟨i, by rw [← T.rowlen ha]; exact hi, ?_⟩
    unfold ent
    rw [List.getD_eq_getElem?_getD, List.getElem?_eq_getElem hi, e]; rfl
  · have h7 := List.all_eq_true.mp h7 b (List.mem_range.mpr hb)
    have h7 := List.elem_iff.mp h7
    have hm := makes_made t gs (n + 1) [0] [0] (fun x hx => by rw [List.mem_singleton.mp hx]; exact .one) (fun x hx => by rw [List.mem_singleton.mp hx]; exact .one) b h7
    exact (all b hm).2 a c ha hc
end GT
set_option Elab.async false
set_option linter.all false
set_option maxRecDepth 100000
/-! ## a table in one number; lists for the kernel -/
namespace GT
/-- the entry of a table that is one number, its rows 32 places of 5 bits -/
def entP (T a b : Nat) : Nat := Nat.land (Nat.shiftRight T (Nat.mul 5 (Nat.add (Nat.mul 32 a) b))) 31
def unpk (T n : Nat) : Tb := (List.range n).map fun a => (List.range n).map fun b => entP T a b
theorem getD_range {α : Type} {n a : Nat} {f : Nat → α} {d : α} (h : a < n) : ((List.range n).map f).getD a d = f a := by
  rw [List.getD_eq_getElem?_getD, List.getElem?_map, List.getElem?_range h]; rfl
theorem ent_unpk {T n a b : Nat} (ha : a < n) (hb : b < n) : ent (unpk T n) a b = entP T a b := by
  unfold ent unpk
  rw [getD_range ha, getD_range hb]
/-- for all numbers below n -/
noncomputable def allN (p : Nat → Bool) (n : Nat) : Bool := Nat.rec (motive := fun _ => Bool) true (fun k ih => Bool.rec false ih (p k)) n
theorem allN_ok {p : Nat → Bool} : ∀ {n : Nat}, allN p n = true → ∀ k, k < n → p k = true
  | 0, _, k, h => absurd h (Nat.not_lt_zero k)
  | n + 1, e, k, h => by
    have e : (Bool.rec false (allN p n) (p n) : Bool) = true := e
    cases q : p n with
    | false => rw [q] at e; cases e
    | true =>
      rw [q] at e
      have e : allN p n = true := e
      by_cases z : k = n
      · rw [z]; exact q
      · exact allN_ok e k (by omega)
noncomputable def anyN (p : Nat → Bool) (n : Nat) : Bool := Nat.rec (motive := fun _ => Bool) false (fun k ih => Bool.rec ih true (p k)) n
theorem anyN_ok {p : Nat → Bool} : ∀ {n : Nat}, anyN p n = true → ∃ k, k < n ∧ p k = true
  | 0, h => by cases h
  | n + 1, e => by
    have e : (Bool.rec (anyN p n) true (p n) : Bool) = true := e
    cases q : p n with
    | false =>
      rw [q] at e
      obtain ⟨k, h1, h2⟩ := anyN_ok (n := n) e
      exact ⟨k, by omega, h2⟩
    | true => exact ⟨n, Nat.lt_succ_self n, q⟩
noncomputable def nthL (l : List (List Nat)) : Nat → List Nat := List.rec (motive := fun _ => Nat → List Nat) (fun _ => []) (fun x _ ih k => Nat.rec (motive := fun _ => List Nat) x (fun k' _ => ih k') k) l
theorem nthL_eq : ∀ (l : List (List Nat)) (k : Nat), nthL l k = l.getD k []
  | [], _ => rfl
  | _ :: _, 0 => rfl
  | _ :: l, k + 1 => by
    show nthL l k = _
    rw [nthL_eq l k]; rfl
noncomputable def eqL (l : List Nat) : List Nat → Bool := List.rec (motive := fun _ => List Nat → Bool) (fun m => List.rec (motive := fun _ => Bool) true (fun _ _ _ => false) m) (fun x _ ih m => List.rec (motive := fun _ => Bool) false (fun y ys _ => Bool.rec false (ih ys) (Nat.beq x y)) m) l
theorem eqL_ok : ∀ {l m : List Nat}, eqL l m = true → l = m
  | [], [], _ => rfl
  | [], _ :: _, h => by cases h
  | _ :: _, [], h => by cases h
  | x :: xs, y :: ys, h => by
    have h : (Bool.rec false (eqL xs ys) (Nat.beq x y) : Bool) = true := h
    cases q : Nat.beq x y with
    | false => rw [q] at h; cases h
    | true =>
      rw [q] at h
      rw [Nat.eq_of_beq_eq_true q, eqL_ok (l := xs) (m := ys) h]
theorem eqL_refl : ∀ (l : List Nat), eqL l l = true
  | [] => rfl
  | x :: xs => by
    show (Bool.rec false (eqL xs xs) (Nat.beq x x) : Bool) = true
    rw [Nat.beq_refl]; exact eqL_refl xs
/-- two numbers among g -/
noncomputable def allG (p : Nat → Bool) (gs : List Nat) : Bool := List.rec (motive := fun _ => Bool) true (fun g _ ih => Bool.rec false ih (p g)) gs
theorem allG_ok {p : Nat → Bool} : ∀ {gs : List Nat}, allG p gs = true → ∀ g ∈ gs, p g = true
  | [], _, g, h => by cases h
  | x :: gs, e, g, h => by
    have e : (Bool.rec false (allG p gs) (p x) : Bool) = true := e
    cases q : p x with
    | false => rw [q] at e; cases e
    | true =>
      rw [q] at e
      rcases List.mem_cons.mp h with rfl | h
      · exact q
      · exact allG_ok (gs := gs) e g h
/-- what the makers make, as bits -/
def spanS (T : Nat) (gs : List Nat) (m : Nat) : Nat → Nat
  | 0 => m
  | b + 1 => if Nat.testBit m b then gs.foldl (fun m' g => m' ||| (1 <<< entP T b g)) (spanS T gs m b) else spanS T gs m b
def span (T : Nat) (gs : List Nat) (n : Nat) : Nat → Nat
  | 0 => 1
  | k + 1 => spanS T gs (span T gs n k) n
theorem bit_or {a e x : Nat} (h : Nat.testBit (a ||| (1 <<< e)) x = true) : Nat.testBit a x = true ∨ x = e := by
  rw [Nat.testBit_or, Bool.or_eq_true] at h
  rcases h with h | h
  · exact .inl h
  · rw [Nat.testBit_shiftLeft, Bool.and_eq_true, decide_eq_true_eq] at h
    have h2 := h.2
    by_cases z : x - e = 0
    · exact .inr (by omega)
    · exfalso
      rw [Nat.testBit_eq_decide_div_mod_eq] at h2
      have : 1 < 2 ^ (x - e) := Nat.one_lt_two_pow z
      rw [Nat.div_eq_of_lt this] at h2
      simp at h2
inductive MadeP (T : Nat) (gs : List Nat) : Nat → Prop
  | one : MadeP T gs 0
  | step {b g : Nat} : MadeP T gs b → g ∈ gs → MadeP T gs (entP T b g)
theorem bit_fold {T b : Nat} {gs : List Nat} (hb : MadeP T gs b) : ∀ (hs : List Nat), (∀ g ∈ hs, g ∈ gs) → ∀ m, (∀ x, Nat.testBit m x = true → MadeP T gs x) → ∀ x, Nat.testBit (hs.foldl (fun m' g => m' ||| (1 <<< entP T b g)) m) x = true → MadeP T gs x
  | [], _, m, h => h
  | g :: hs, hg, m, h => bit_fold hb hs (fun g' z => hg g' (List.mem_cons_of_mem _ z)) _ fun x hx => by
    rcases bit_or hx with q | q
    · exact h x q
    · subst q; exact .step hb (hg g List.mem_cons_self)
theorem spanS_ok {T m : Nat} {gs : List Nat} (h : ∀ x, Nat.testBit m x = true → MadeP T gs x) : ∀ b x, Nat.testBit (spanS T gs m b) x = true → MadeP T gs x
  | 0, x, q => h x q
  | b + 1, x, q => by
    unfold spanS at q
    split at q
    · rename_i z
      exact bit_fold (h b z) gs (fun _ z => z) _ (spanS_ok h b) x q
    · exact spanS_ok h b x q
theorem span_ok {T n : Nat} {gs : List Nat} : ∀ k x, Nat.testBit (span T gs n k) x = true → MadeP T gs x
  | 0, x, h => by
    have h : Nat.testBit 1 x = true := h
    by_cases z : x = 0
    · subst z; exact .one
    · rw [Nat.testBit_eq_decide_div_mod_eq, Nat.div_eq_of_lt (Nat.one_lt_two_pow z)] at h
      simp at h
  | k + 1, x, h => spanS_ok (span_ok k) n x h
noncomputable def grpP (T n : Nat) (gs : List Nat) : Bool :=
  Nat.blt 0 n && allN (fun a => Nat.beq (entP T 0 a) a && (Nat.beq (entP T a 0) a && (allN (fun b => Nat.blt (entP T a b) n) n && anyN (fun b => Nat.beq (entP T a b) 0) n))) n &&
  allG (fun g => Nat.blt g n && allN (fun a => allN (fun c => Nat.beq (entP T (entP T a g) c) (entP T a (entP T g c))) n) n) gs &&
  allN (fun b => Nat.testBit (span T gs n n) b) n
theorem grpP_ok {T n : Nat} {gs : List Nat} (h : grpP T n gs = true) : Grp (unpk T n) n := by
  unfold grpP at h
  simp only [Bool.and_eq_true] at h
  obtain ⟨⟨⟨h1, h2⟩, h3⟩, h4⟩ := h
  have pos : 0 < n := Nat.blt_eq ▸ h1
  have q := allN_ok h2
  simp only [Bool.and_eq_true, Nat.beq_eq] at q
  have lt : ∀ a b, a < n → b < n → entP T a b < n := fun a b ha hb => by
    have := allN_ok (q a ha).2.2.1 b hb
    rwa [Nat.blt_eq] at this
  have m := allG_ok h3
  simp only [Bool.and_eq_true, Nat.blt_eq] at m
  have mid : ∀ g ∈ gs, ∀ a c, a < n → c < n → entP T (entP T a g) c = entP T a (entP T g c) := fun g hg a c ha hc => by
    have := allN_ok (allN_ok (m g hg).2 a ha) c hc
    rwa [Nat.beq_eq] at this
  have T' : IsTab (unpk T n) n := by
    unfold unpk
    refine ⟨by simp, fun r hr => ?_⟩
    obtain ⟨a, ha, rfl⟩ := List.mem_map.mp hr
    refine ⟨by simp, fun x hx => ?_⟩
    obtain ⟨b, hb, rfl⟩ := List.mem_map.mp hx
    exact lt a b (List.mem_range.mp ha) (List.mem_range.mp hb)
  have all : ∀ b, MadeP T gs b → b < n ∧ ∀ a c, a < n → c < n → entP T (entP T a b) c = entP T a (entP T b c) := by
    intro b hb
    induction hb with
    | one => exact ⟨pos, fun a c ha hc => by rw [(q a ha).2.1, (q c hc).1]⟩
    | @step b g hb hg ih =>
      obtain ⟨hb, ih⟩ := ih
      have gl := (m g hg).1
      refine ⟨lt b g hb gl, fun a c ha hc => ?_⟩
      rw [← ih a g ha gl, mid g hg _ c (lt a b ha hb) hc, ih a _ ha (lt g c gl hc), mid g hg b c hb hc]
  refine ⟨T', pos, fun a ha => ?_, fun a ha => ?_, fun a ha => ?_, fun a b c ha hb hc => ?_⟩
  · rw [ent_unpk pos ha]; exact (q a ha).1
  · rw [ent_unpk ha pos]; exact (q a ha).2.1
  · obtain ⟨b, hb, e⟩ := anyN_ok (q a ha).2.2.2
    exact ⟨b, hb, by rw [ent_unpk ha hb]; exact Nat.beq_eq ▸ e⟩
  · rw [ent_unpk ha hb, ent_unpk hb hc, ent_unpk (lt a b ha hb) hc, ent_unpk ha (lt b c hb hc)]
    exact (all b (span_ok n b (allN_ok h4 b hb))).2 a c ha hc
end GT
set_option Elab.async false
set_option linter.all false
set_option maxRecDepth 100000
/-! ## the rules of the drawn groups (the laws k00 .. k09) -/
namespace GT
inductive Rule where
  | rings (sizes : List Nat) | turns (n : Nat) | quarters (n : Nat) | led (n k r : Nat) | orders (e : Nat) | three | table
  deriving DecidableEq
def longer (found : List (List Nat)) (size : Nat) : List (List Nat) := found.flatMap fun row => (List.range size).map fun one => row ++ [one]
def wrong (row : List Nat) : Nat := (row.mapIdx fun at_ one => ((row.drop (at_ + 1)).filter fun other => decide (other < one)).length).sum
def ordLonger (found : List (List Nat)) : List (List Nat) := found.flatMap fun row => ((List.range 4).filter fun one => !row.contains one).map fun one => row ++ [one]
def mems : Rule → List (List Nat)
  | .rings sizes => sizes.foldl longer [[]]
  | .turns n => (List.range n).map (fun k => [k, 0]) ++ (List.range n).map (fun k => [k, 1])
  | .quarters n => (List.range (2 * n)).map (fun k => [k, 0]) ++ (List.range (2 * n)).map (fun k => [k, 1])
  | .led n k _ => (List.range k).flatMap fun a => (List.range n).map fun x => [a, x]
  | .orders e => (ordLonger (ordLonger (ordLonger (ordLonger [[]])))).filter fun row => decide (e = 0) || decide (wrong row % 2 = 0)
  | .three => [3, 3, 3].foldl longer [[]]
  | .table => [1, 0, 0, 1] :: ((([3, 3, 3, 3].foldl longer [[]]).filter fun m => match m with
      | [a, b, c, d] => decide (((a : Int) * d - b * c) % 3 = 1)
      | _ => false).filter fun m => decide (m ≠ [1, 0, 0, 1]))
def zip3 : List Nat → List Nat → List Nat → List Nat
  | a :: as, b :: bs, s :: ss => (a + b) % s :: zip3 as bs ss
  | _, _, _ => []
def ledBy (n r : Nat) : Nat → Nat → Nat
  | 0, here => here
  | k + 1, here => ledBy n r k (here * r % n)
/-- a number less another one, around n -/
def lessN (n a c : Nat) : Nat := (a + (n - c % n)) % n
def tms : Rule → List Nat → List Nat → List Nat
  | .rings sizes, x, y => zip3 x y sizes
  | .turns n, [a, b], [c, d] => [if b = 0 then (a + c) % n else lessN n a c, (b + d) % 2]
  | .quarters n, [a, b], [c, d] => [if b = 0 then (a + c) % (2 * n) else if d = 0 then lessN (2 * n) a c else (lessN (2 * n) a c + n) % (2 * n), (b + d) % 2]
  | .led n k r, [a, b], [c, d] => [(a + c) % k, (ledBy n r c b + d) % n]
  | .orders _, x, y => x.map fun one => y.getD one 0
  | .three, [a, b, c], [d, e, f] => [(a + d) % 3, (b + e) % 3, (c + f + a * e) % 3]
  | .table, [a, b, c, d], [e, f, g, h] => [(a * e + b * g) % 3, (a * f + b * h) % 3, (c * e + d * g) % 3, (c * f + d * h) % 3]
  | _, _, _ => []
/-- where a member stands (a guess: what it gives is looked at) -/
noncomputable def findK (q : List Nat) (l : List (List Nat)) : Nat := List.rec (motive := fun _ => Nat) 0 (fun x _ ih => Bool.rec (Nat.succ ih) 0 (eqL x q)) l
noncomputable def pos (r : Rule) (z : List Nat) : Nat := match r, z with
  | .rings sizes, z => (z.zip sizes).foldl (fun a p => Nat.add (Nat.mul a p.2) p.1) 0
  | .turns n, [a, b] => Nat.add (Nat.mul n b) a
  | .quarters n, [a, b] => Nat.add (Nat.mul (Nat.mul 2 n) b) a
  | .led n _ _, [a, b] => Nat.add (Nat.mul n a) b
  | .three, [a, b, c] => Nat.add (Nat.mul 9 a) (Nat.add (Nat.mul 3 b) c)
  | .orders e, z => findK z (mems (.orders e))
  | .table, z => findK z (mems .table)
  | _, _ => 0
noncomputable def packR (f : List Nat → Nat) (m : Nat) (l : List (List Nat)) : Nat := List.rec (motive := fun _ => Nat) 0 (fun x _ ih => Nat.add (f x) (Nat.mul m ih)) l
noncomputable def packT (r : Rule) : Nat := packR (fun x => packR (fun y => pos r (tms r x y)) 32 (mems r)) (2 ^ 160) (mems r)
noncomputable def sizeOf_ (l : List (List Nat)) : Nat := List.rec (motive := fun _ => Nat) 0 (fun _ _ ih => Nat.succ ih) l
def tblN (T n : Nat) : Tb := unpk T n
/-- the one number says what the rule says -/
noncomputable def tellsP (r : Rule) (T n : Nat) : Bool :=
  Nat.beq (mems r).length n && allN (fun a => allN (fun b => eqL (nthL (mems r) (entP T a b)) (tms r (nthL (mems r) a) (nthL (mems r) b))) n) n
noncomputable def nodupP (l : List (List Nat)) : Bool := List.rec (motive := fun _ => Bool) true (fun x xs ih => Bool.rec ih false (List.rec (motive := fun _ => Bool) false (fun y _ ih2 => Bool.rec ih2 true (eqL x y)) xs)) l
end GT
set_option Elab.async false
set_option linter.all false
/-! ## counting -/
namespace GT
/-- the unlike ones, in the order of their first places -/
def firsts (l : List Nat) : List Nat := l.foldl (fun acc m => if m ∈ acc then acc else acc ++ [m]) []
theorem firsts_snoc (l : List Nat) (m : Nat) : firsts (l ++ [m]) = if m ∈ firsts l then firsts l else firsts l ++ [m] := by
  unfold firsts; rw [List.foldl_append]; rfl
theorem firsts_spec (l : List Nat) : (firsts l).Nodup ∧ ∀ x, x ∈ firsts l ↔ x ∈ l := by
  suffices H : ∀ (r l : List Nat), (firsts l).Nodup ∧ (∀ x, x ∈ firsts l ↔ x ∈ l) → (firsts (l ++ r)).Nodup ∧ ∀ x, x ∈ firsts (l ++ r) ↔ x ∈ l ++ r from by
    have := H l [] ⟨List.nodup_nil, fun x => Iff.rfl⟩
    simpa using this
  intro r
  induction r with
  | nil => intro l h; simpa using h
  | cons m r ih =>
    intro l ⟨h1, h2⟩
    have := ih (l ++ [m]) (by
      rw [firsts_snoc]
      by_cases z : m ∈ firsts l
      · rw [if_pos z]
        refine ⟨h1, fun x => ?_⟩
        rw [h2 x, List.mem_append, List.mem_singleton]
        exact ⟨.inl, fun q => q.elim id fun e => e ▸ (h2 m).mp z⟩
      · rw [if_neg z]
        refine ⟨?_, fun x => by rw [List.mem_append, List.mem_append, h2 x]⟩
        rw [List.nodup_append]
        refine ⟨h1, by simp, fun a ha b hb e => ?_⟩
        rw [List.mem_singleton] at hb
        subst hb; subst e; exact z ha)
    rwa [List.append_assoc] at this
theorem firsts_len (l : List Nat) : (firsts l).length ≤ l.length := by
  suffices H : ∀ (l acc : List Nat), (l.foldl (fun acc m => if m ∈ acc then acc else acc ++ [m]) acc).length ≤ acc.length + l.length from by
    have := H l []; simp at this; exact this
  intro l
  induction l with
  | nil => intro acc; exact Nat.le_refl _
  | cons m l ih =>
    intro acc
    rw [List.foldl_cons]
    refine Nat.le_trans (ih _) ?_
    split
    · rw [List.length_cons]; omega
    · rw [List.length_append, List.length_cons, List.length_cons, List.length_nil]; omega
/-- the unlike ones below m, ascending -/
def sset (m : Nat) (l : List Nat) : List Nat := (List.range m).filter fun k => decide (k ∈ l)
theorem mem_sset {m : Nat} {l : List Nat} (h : ∀ x ∈ l, x < m) (k : Nat) : k ∈ sset m l ↔ k ∈ l := by
  unfold sset
  rw [List.mem_filter, List.mem_range, decide_eq_true_eq]
  exact ⟨fun q => q.2, fun q => ⟨h k q, q⟩⟩
theorem sset_lt (m : Nat) (l : List Nat) : (sset m l).Pairwise (· < ·) := List.pairwise_lt_range.sublist List.filter_sublist
theorem sset_nodup (m : Nat) (l : List Nat) : (sset m l).Nodup := List.nodup_range.sublist List.filter_sublist
def leP (p q : Nat × Nat) : Bool := decide (p.1 < q.1 ∨ (p.1 = q.1 ∧ p.2 ≤ q.2))
theorem sort_counts {m : Nat} {l : List Nat} (h : ∀ x ∈ l, x < m) (c : Nat → Nat) : ((firsts l).map fun s => (s, c s)).mergeSort leP = (sset m l).map fun s => (s, c s) := by
  refine List.Perm.eq_of_pairwise (le := fun p q => leP p q = true) ?_ (List.pairwise_mergeSort ?_ ?_ _) ?_ ((List.mergeSort_perm _ _).trans (List.Perm.map _ ?_))
  · intro a b _ _ h1 h2
    unfold leP at h1 h2
    rw [decide_eq_true_eq] at h1 h2
    exact Prod.ext (by omega) (by omega)
  · intro a b c h1 h2
    unfold leP at *
    rw [decide_eq_true_eq] at *
    omega
  · intro a b
    unfold leP
    rw [Bool.or_eq_true, decide_eq_true_eq, decide_eq_true_eq]
    omega
  · rw [List.pairwise_map]
    exact (sset_lt m l).imp fun {a b} q => by unfold leP; rw [decide_eq_true_eq]; exact .inl q
  · refine (List.perm_ext_iff_of_nodup (firsts_spec l).1 (sset_nodup m l)).mpr fun x => ?_
    rw [(firsts_spec l).2 x, mem_sset h]
/-- an ascending list of the unlike ones is that one -/
theorem sset_unique {m : Nat} {l : List Nat} (h : ∀ x ∈ l, x < m) {out : List Nat} (p : out.Pairwise (· < ·)) (e : ∀ k, k ∈ out ↔ k ∈ l) : out = sset m l := by
  refine List.Perm.eq_of_pairwise (le := (· < ·)) (fun a b _ _ h1 h2 => absurd h2 (by omega)) p (sset_lt m l) ?_
  refine (List.perm_ext_iff_of_nodup (p.imp fun {a b} q => Nat.ne_of_lt q) (sset_nodup m l)).mpr fun x => ?_
  rw [e x, mem_sset h]
end GT
set_option Elab.async false
set_option linter.all false
/-! ## names -/
namespace GT
def IsNames (told : List Nat) (n : Nat) : Prop := told.Perm (List.range n) ∧ told[0]? = some 0
theorem erase_perm {x : Nat} : ∀ {l : List Nat} {i : Nat}, l[i]? = some x → (x :: l.eraseIdx i).Perm l
  | [], _, h => by simp at h
  | a :: l, 0, h => by simp at h; subst h; exact .refl _
  | a :: l, i + 1, h => by
    have h : l[i]? = some x := by simpa using h
    rw [List.eraseIdx_cons_succ]
    exact (List.Perm.swap a x _).trans (.cons a (erase_perm h))
section
variable {told : List Nat} {n : Nat} (N : IsNames told n)
include N
theorem IsNames.len : told.length = n := by rw [N.1.length_eq, List.length_range]
theorem IsNames.nodup : told.Nodup := N.1.nodup_iff.mpr List.nodup_range
theorem IsNames.mem (x : Nat) : x ∈ told ↔ x < n := by rw [N.1.mem_iff, List.mem_range]
theorem IsNames.at_ {a : Nat} (ha : a < n) : told[a]? = some (told.getD a 0) := by
  rw [List.getD_eq_getElem?_getD, List.getElem?_eq_getElem (by rw [N.len]; exact ha)]; rfl
theorem IsNames.fl {a : Nat} (ha : a < n) : told.getD a 0 < n := (N.mem _).mp (List.mem_of_getElem? (N.at_ ha))
theorem IsNames.gl {a : Nat} (ha : a < n) : told.idxOf a < n := by
  have := List.idxOf_lt_length_of_mem ((N.mem a).mpr ha)
  rwa [N.len] at this
theorem IsNames.gf {a : Nat} (ha : a < n) : told.idxOf (told.getD a 0) = a := by
  rw [List.getD_eq_getElem?_getD, List.getElem?_eq_getElem (by rw [N.len]; exact ha)]
  exact N.nodup.idxOf_getElem _ _
theorem IsNames.fg {a : Nat} (ha : a < n) : told.getD (told.idxOf a) 0 = a := by
  rw [List.getD_eq_getElem?_getD, List.getElem?_eq_getElem (by rw [N.len]; exact N.gl ha)]
  exact List.getElem_idxOf _
theorem IsNames.f0 (hn : 0 < n) : told.getD 0 0 = 0 := by rw [List.getD_eq_getElem?_getD, N.2]; rfl
end
/-- the table under new names -/
def called (t : Tb) (told : List Nat) : Tb := told.map fun x => told.map fun y => told.idxOf (ent t x y)
theorem called_tab {t : Tb} {n : Nat} {told : List Nat} (T : IsTab t n) (N : IsNames told n) : IsTab (called t told) n := by
  unfold called
  refine ⟨by rw [List.length_map, N.len], fun r hr => ?_⟩
  obtain ⟨x, hx, rfl⟩ := List.mem_map.mp hr
  refine ⟨by rw [List.length_map, N.len], fun z hz => ?_⟩
  obtain ⟨y, hy, rfl⟩ := List.mem_map.mp hz
  exact N.gl (T.lt ((N.mem x).mp hx) ((N.mem y).mp hy))
theorem called_iso {t : Tb} {n : Nat} {told : List Nat} (T : IsTab t n) (N : IsNames told n) (h0 : 0 < n) : Iso t (called t told) n (fun a => told.getD a 0) (fun a => told.idxOf a) where
  fl := fun a ha => N.fl ha
  gl := fun a ha => N.gl ha
  gf := fun a ha => N.gf ha
  fg := fun a ha => N.fg ha
  f0 := N.f0 h0
  en := fun a b ha hb => by
    unfold called ent
    have h1 : (told.map fun x => told.map fun y => told.idxOf (ent t x y))[a]? = some (told.map fun y => told.idxOf (ent t (told.getD a 0) y)) := by
      rw [List.getElem?_map, N.at_ ha]; rfl
    have h2 : (told.map fun y => told.idxOf (ent t (told.getD a 0) y))[b]? = some (told.idxOf (ent t (told.getD a 0) (told.getD b 0))) := by
      rw [List.getElem?_map, N.at_ hb]; rfl
    have e1 : ((told.map fun x => told.map fun y => told.idxOf (ent t x y)).getD a []) = told.map fun y => told.idxOf (ent t (told.getD a 0) y) := by
      rw [List.getD_eq_getElem?_getD, h1]; rfl
    show (((told.map fun x => told.map fun y => told.idxOf (ent t x y)).getD a []).getD b 0) = told.idxOf (ent t (told.getD a 0) (told.getD b 0))
    rw [e1, List.getD_eq_getElem?_getD, h2]; rfl
end GT
set_option Elab.async false
set_option linter.all false
set_option maxRecDepth 100000
namespace PL
open PySem PySem.Spec PyProof.Rows L2

/-! ## loops, by what holds between the turns -/
theorem whileI {tc : DB} {tb : DS} {N : Nds} {ρ : DEnv} (I : Nat → DEnv → Prop) (m : Nat) (h : I m ρ)
    (h0 : ∀ ρ, I 0 ρ → ∀ R : DEnv → Prop, tc ρ (fun b => if b = true then tb { N with nx := R, ct := R, bk := N.nx } ρ else N.nx ρ) N.ex)
    (hs : ∀ k ρ, I (k + 1) ρ → ∀ R : DEnv → Prop, (∀ ρ', I k ρ' → R ρ') → tc ρ (fun b => if b = true then tb { N with nx := R, ct := R, bk := N.nx } ρ else N.nx ρ) N.ex) : dWhile tc tb N ρ := by
  refine ⟨m + 1, ?_⟩
  induction m generalizing ρ with
  | zero => exact h0 ρ h _
  | succ k ih => exact hs k ρ h _ fun ρ' h' => ih h'
/-- .. by a measure -/
theorem whileM {α : Type} {tc : DB} {tb : DS} {N : Nds} {ρ : DEnv} (I : α → DEnv → Prop) (μ : α → Nat) (a : α) (h : I a ρ)
    (hs : ∀ a ρ, I a ρ → ∀ R : DEnv → Prop, (∀ a' ρ', I a' ρ' → μ a' < μ a → R ρ') → tc ρ (fun b => if b = true then tb { N with nx := R, ct := R, bk := N.nx } ρ else N.nx ρ) N.ex) : dWhile tc tb N ρ := by
  refine ⟨μ a + 1, ?_⟩
  suffices H : ∀ m a ρ, I a ρ → μ a < m → whileK tc tb N m ρ from H _ a ρ h (Nat.lt_succ_self _)
  intro m
  induction m with
  | zero => intro a ρ _ hl; exact absurd hl (Nat.not_lt_zero _)
  | succ m ih => intro a ρ hi hl; exact hs a ρ hi _ fun a' ρ' hi' hl' => ih a' ρ' hi' (by omega)
theorem forI {T : Tg} {tb : DS} {N : Nds} (items : List D) {ρ : DEnv} (I : Nat → DEnv → Prop) (h : I 0 ρ)
    (hs : ∀ i d ρ, items[i]? = some d → I i ρ → ∃ ρ1, asg T d ρ = some ρ1 ∧ ∀ R : DEnv → Prop, (∀ ρ', I (i + 1) ρ' → R ρ') → tb { N with nx := R, ct := R, bk := N.nx } ρ1)
    (he : ∀ ρ, I items.length ρ → N.nx ρ) : forK T tb N items ρ := by
  suffices H : ∀ (l : List D) (i : Nat) (ρ : DEnv), items.drop i = l → i ≤ items.length → I i ρ → forK T tb N l ρ from H items 0 ρ rfl (Nat.zero_le _) h
  intro l
  induction l with
  | nil =>
    intro i ρ e hl hi
    have : items.length ≤ i := by
      have := congrArg List.length e
      simp at this; omega
    exact he ρ ((show i = items.length by omega) ▸ hi)
  | cons d l ih =>
    intro i ρ e hl hi
    have hlt : i < items.length := by
      have := congrArg List.length e
      simp at this; omega
    rw [List.drop_eq_getElem_cons hlt] at e
    obtain ⟨e1, e2⟩ := List.cons.inj e
    obtain ⟨ρ1, ea, q⟩ := hs i d ρ (by rw [List.getElem?_eq_getElem hlt, e1]) hi
    unfold forK
    rw [ea]
    exact q _ fun ρ' h' => ih (i + 1) ρ' e2 hlt h'
/-- a comprehension whose test and element are known -/
theorem compI {α : Type} {T : Tg} {tt : DB} {te : DT} {ρ : DEnv} {k : List D → Prop} (l : List α) (enc : α → D) (p : α → Bool) (f : α → D)
    (h : ∀ a ∈ l, ∃ ρ', asg T (enc a) ρ = some ρ' ∧ (∀ R : Bool → Prop, R (p a) → tt ρ' R NoX) ∧ (p a = true → ∀ R : D → Prop, R (f a) → te ρ' R NoX)) (q : k ((l.filter p).map f)) : compK T tt te ρ (l.map enc) k := by
  induction l generalizing k with
  | nil => exact q
  | cons a l ih =>
    obtain ⟨ρ', ea, h1, h2⟩ := h a List.mem_cons_self
    unfold compK
    rw [List.map_cons]
    simp only [ea]
    refine h1 _ ?_
    by_cases z : p a = true
    · rw [if_pos z]
      refine h2 z _ ?_
      exact ih (fun b hb => h b (List.mem_cons_of_mem _ hb)) (by rw [List.filter_cons, if_pos z] at q; exact q)
    · rw [if_neg z]
      exact ih (fun b hb => h b (List.mem_cons_of_mem _ hb)) (by rw [List.filter_cons, if_neg z] at q; exact q)
theorem compM {α : Type} {T : Tg} {te : DT} {ρ : DEnv} {k : List D → Prop} (l : List α) (enc : α → D) (f : α → D)
    (h : ∀ a ∈ l, ∃ ρ', asg T (enc a) ρ = some ρ' ∧ ∀ R : D → Prop, R (f a) → te ρ' R NoX) (q : k (l.map f)) : compK T bYes te ρ (l.map enc) k :=
  compI l enc (fun _ => true) f (fun a ha => by
    obtain ⟨ρ', e, q⟩ := h a ha
    exact ⟨ρ', e, fun R r => r, fun _ => q⟩) (by rw [List.filter_eq_self.mpr (fun _ _ => rfl)]; exact q)

/-! ## data that come of plain things -/
abbrev nI (x : Nat) : D := .int (x : Int)
def tupN (r : List Nat) : D := .tup (r.map nI)
abbrev lstN (r : List Nat) : D := .lst (r.map nI)
def tabD (t : GT.Tb) : D := .tup (t.map tupN)
def grpD (t : GT.Tb) (n : Nat) (bs : List Nat) : D := .obj "Group" ["table", "many", "backs"] [tabD t, nI n, tupN bs]

/-! ### places -/
theorem atI_nI {xs : List D} {i : Nat} {d : D} (h : xs[i]? = some d) : atI xs (i : Int) = some d := atI_nat h
theorem it_tup {xs : List D} {i : Nat} {d : D} (h : xs[i]? = some d) : itD (.tup xs) (nI i) = .ok d := by
  show (match atI xs (i : Int) with | some d => Ret.ok d | none => .no) = .ok d
  rw [atI_nI h]
theorem it_lst {xs : List D} {i : Nat} {d : D} (h : xs[i]? = some d) : itD (.lst xs) (nI i) = .ok d := by
  show (match atI xs (i : Int) with | some d => Ret.ok d | none => .no) = .ok d
  rw [atI_nI h]
open GT in
theorem it_tab {t : Tb} {n a : Nat} (T : IsTab t n) (ha : a < n) : itD (tabD t) (nI a) = .ok (tupN (t.getD a [])) := by
  refine it_tup ?_
  rw [List.getElem?_map, List.getD_eq_getElem?_getD, List.getElem?_eq_getElem (by rw [T.len]; exact ha)]; rfl
theorem it_row {r : List Nat} {b : Nat} (hb : b < r.length) : itD (tupN r) (nI b) = .ok (nI (r.getD b 0)) := by
  refine it_tup ?_
  rw [List.getElem?_map, List.getD_eq_getElem?_getD, List.getElem?_eq_getElem hb]; rfl
/-! ### fields -/
def fldK (cs : List Str) (f : Str) (d : D) (Q : D → Prop) : Prop := match d with | .obj c ns vs => c ∈ cs ∧ (match getF f ns vs with | some x => Q x | none => False) | _ => False
theorem dFld_eq {cs : List Str} {f : Str} {t : DT} {ρ : DEnv} {Q : D → Prop} {E : EX → Prop} : dFld cs f t ρ Q E = t ρ (fun d => fldK cs f d Q) E := rfl
theorem fldK_table {t : GT.Tb} {n : Nat} {bs : List Nat} {Q : D → Prop} : fldK ["Group"] "table" (grpD t n bs) Q = Q (tabD t) :=
  propext ⟨fun h => h.2, fun h => ⟨List.mem_cons_self, h⟩⟩
theorem fldK_many {t : GT.Tb} {n : Nat} {bs : List Nat} {Q : D → Prop} : fldK ["Group"] "many" (grpD t n bs) Q = Q (nI n) :=
  propext ⟨fun h => h.2, fun h => ⟨List.mem_cons_self, h⟩⟩
theorem fldK_backs {t : GT.Tb} {n : Nat} {bs : List Nat} {Q : D → Prop} : fldK ["Group"] "backs" (grpD t n bs) Q = Q (tupN bs) :=
  propext ⟨fun h => h.2, fun h => ⟨List.mem_cons_self, h⟩⟩
theorem to_ok {z : D} {Q : D → Prop} : (Ret.ok z).to Q = Q z := rfl
theorem to_cond {c : Prop} {z : D} {Q : D → Prop} : (Ret.cond c z).to Q = (c ∧ Q z) := rfl
theorem isNat (x : Nat) : ∃ z : D, nI x = z := ⟨_, rfl⟩
theorem isi_tup_tuple {r : List D} {Q : D → Prop} : (isiR [.tup r, .ty "tuple"]).to Q = Q (.bl true) := propext ⟨fun h => h.2, fun h => ⟨by decide, h⟩⟩
theorem isi_int_int {r : Int} {Q : D → Prop} : (isiR [.int r, .ty "int"]).to Q = Q (.bl true) := propext ⟨fun h => h.2, fun h => ⟨by decide, h⟩⟩
theorem isi_int_bool {r : Int} {Q : D → Prop} : (isiR [.int r, .ty "bool"]).to Q = Q (.bl false) := propext ⟨fun h => h.2, fun h => ⟨by decide, h⟩⟩
theorem isi_lst_list {r : List D} {Q : D → Prop} : (isiR [.lst r, .ty "list"]).to Q = Q (.bl true) := propext ⟨fun h => h.2, fun h => ⟨by decide, h⟩⟩
/-! ### plain data -/
theorem okd_nI (x : Nat) : okd (nI x) = true := rfl
theorem okd_int (i : Int) : okd (.int i) = true := rfl
theorem okd_bl (i : Bool) : okd (.bl i) = true := rfl
theorem okd_non : okd .non = true := rfl
theorem eqv_int (i j : Int) : eqv (.int i) (.int j) = decide (i = j) := by
  show (i == j) = _
  by_cases h : i = j
  · subst h; simp
  · simp [h]
theorem ifT {c : Bool} {p q : Prop} (h : c = true) (hp : p) : if c = true then p else q := by rw [if_pos h]; exact hp
theorem ifF {c : Bool} {p q : Prop} (h : c = false) (hp : q) : if c = true then p else q := by rw [if_neg (by rw [h]; decide)]; exact hp
theorem okvL_nI (k : Nat) : ∀ r : List Nat, okvL k (r.map nI) = true
  | [] => by simp [okvL]
  | x :: r => by
    show (okv k (nI x) && okvL k (r.map nI)) = true
    rw [okvL_nI k r]
    cases k <;> rfl
theorem okv_tupN (k : Nat) (r : List Nat) : okv (k + 1) (tupN r) = true := by
  show okvL k (r.map nI) = true
  exact okvL_nI k r
theorem okd_tupN (r : List Nat) : okd (tupN r) = true := okv_tupN 59 r
theorem okd_lstN (r : List Nat) : okd (.lst (r.map nI)) = true := by
  show okvL 59 (r.map nI) = true
  exact okvL_nI 59 r
theorem okvL_of {α : Type} (k : Nat) (enc : α → D) : ∀ l : List α, (∀ a ∈ l, okv k (enc a) = true) → okvL k (l.map enc) = true
  | [], _ => by simp [okvL]
  | a :: l, h => by
    show (okv k (enc a) && okvL k (l.map enc)) = true
    rw [h a List.mem_cons_self, okvL_of k enc l fun b hb => h b (List.mem_cons_of_mem _ hb)]; rfl
theorem okd_tabD (t : GT.Tb) : okd (tabD t) = true := okvL_of 59 tupN t fun r _ => okv_tupN 58 r
theorem eqv_nI (a b : Nat) : eqv (nI a) (nI b) = decide (a = b) := by
  show ((a : Int) == (b : Int)) = decide (a = b)
  by_cases h : a = b
  · subst h; simp
  · have : (a : Int) ≠ b := fun e => h (by exact_mod_cast e)
    simp [h, this]
theorem eqvL_of {α : Type} [DecidableEq α] (enc : α → D) (h : ∀ a b, eqv (enc a) (enc b) = decide (a = b)) : ∀ l m : List α, eqvL (l.map enc) (m.map enc) = decide (l = m)
  | [], [] => by simp [eqvL]
  | [], _ :: _ => by simp [eqvL]
  | _ :: _, [] => by simp [eqvL]
  | a :: l, b :: m => by
    show (eqv (enc a) (enc b) && eqvL (l.map enc) (m.map enc)) = _
    rw [h a b, eqvL_of enc h l m]
    simp
theorem eqv_tupN (r s : List Nat) : eqv (tupN r) (tupN s) = decide (r = s) := by
  show eqvL (r.map nI) (s.map nI) = _
  exact eqvL_of nI eqv_nI r s
theorem eqv_lstN (r s : List Nat) : eqv (.lst (r.map nI)) (.lst (s.map nI)) = decide (r = s) := by
  show eqvL (r.map nI) (s.map nI) = _
  exact eqvL_of nI eqv_nI r s
theorem eqv_tabD (t u : GT.Tb) : eqv (tabD t) (tabD u) = decide (t = u) := by
  show eqvL (t.map tupN) (u.map tupN) = _
  exact eqvL_of tupN eqv_tupN t u
/-! ### what is walked -/
theorem dRng_nat (n : Nat) : dRng 0 ((n : Int)).toNat = (List.range n).map nI := by
  unfold dRng
  rw [Int.toNat_natCast]
  refine List.map_congr_left fun i _ => ?_
  rw [Int.zero_add]
theorem dRng_zero (i : Int) : dRng 0 i.toNat = (List.range i.toNat).map nI := by
  unfold dRng
  refine List.map_congr_left fun i _ => ?_
  rw [Int.zero_add]
theorem lt62 {n : Nat} (h : n ≤ 1000000) : -2 ^ 62 ≤ (n : Int) ∧ (n : Int) < 2 ^ 62 := by omega
theorem range1 {n : Nat} {P : List D → Prop} (h : n ≤ 1000000) (q : P ((List.range n).map nI)) : -2 ^ 62 ≤ (n : Int) ∧ (n : Int) < 2 ^ 62 ∧ P (dRng 0 ((n : Int)).toNat) := by
  refine ⟨by omega, by omega, ?_⟩
  rw [dRng_nat]; exact q
theorem compLen {k : Nat} {p : Prop} (h : k ≤ 1000000) (q : p) : k ≤ 16777216 ∧ p := ⟨by omega, q⟩
theorem map_get {α : Type} {l : List α} {enc : α → D} {i : Nat} {d : D} (h : (l.map enc)[i]? = some d) : ∃ x, l[i]? = some x ∧ d = enc x := by
  rw [List.getElem?_map] at h
  obtain ⟨x, h1, h2⟩ := Option.map_eq_some_iff.mp h
  exact ⟨x, h1, h2.symm⟩
theorem enum_get {α : Type} {l : List α} {enc : α → D} {i : Nat} {d : D} (h : (enumL (l.map enc))[i]? = some d) : ∃ x, l[i]? = some x ∧ d = .tup [nI i, enc x] := by
  unfold enumL at h
  rw [List.getElem?_mapIdx] at h
  obtain ⟨y, h1, h2⟩ := Option.map_eq_some_iff.mp h
  obtain ⟨x, h3, rfl⟩ := map_get h1
  exact ⟨x, h3, h2.symm⟩
theorem enum_len (ds : List D) : (enumL ds).length = ds.length := by unfold enumL; simp
theorem enum_map {α : Type} (l : List α) (enc : α → D) : enumL (l.map enc) = (l.zipIdx).map fun p => .tup [nI p.2, enc p.1] := by
  unfold enumL
  refine List.ext_getElem? fun i => ?_
  rw [List.getElem?_mapIdx, List.getElem?_map, List.getElem?_map, List.getElem?_zipIdx]
  cases l[i]? <;> simp
theorem getElem?_lt {α : Type} {l : List α} {i : Nat} {x : α} (h : l[i]? = some x) : i < l.length := (List.getElem?_eq_some_iff.mp h).1
theorem getD_of {α : Type} {l : List α} {i : Nat} {x d : α} (h : l[i]? = some x) : l.getD i d = x := by rw [List.getD_eq_getElem?_getD, h]; rfl
theorem compE {α β : Type} {T : Tg} {te : DT} {ρ : DEnv} {k : List D → Prop} (l : List α) (enc : α → D) (g : α → β) (out : β → D)
    (h : ∀ a ∈ l, ∃ ρ', asg T (enc a) ρ = some ρ' ∧ ∀ R : D → Prop, R (out (g a)) → te ρ' R NoX) (q : k ((l.map g).map out)) : compK T bYes te ρ (l.map enc) k :=
  compM l enc (fun a => out (g a)) h (by rw [List.map_map] at q; exact q)
theorem compF {α β : Type} {T : Tg} {tt : DB} {te : DT} {ρ : DEnv} {k : List D → Prop} (l : List α) (enc : α → D) (p : α → Bool) (g : α → β) (out : β → D)
    (h : ∀ a ∈ l, ∃ ρ', asg T (enc a) ρ = some ρ' ∧ (∀ R : Bool → Prop, R (p a) → tt ρ' R NoX) ∧ (p a = true → ∀ R : D → Prop, R (out (g a)) → te ρ' R NoX)) (q : k (((l.filter p).map g).map out)) : compK T tt te ρ (l.map enc) k :=
  compI l enc p (fun a => out (g a)) h (by rw [List.map_map] at q; exact q)
theorem mem_get {α : Type} {l : List α} {x : α} (h : x ∈ l) : ∃ i : Nat, l[i]? = some x := by
  obtain ⟨i, hi, e⟩ := List.mem_iff_getElem.mp h
  exact ⟨i, by rw [List.getElem?_eq_getElem hi, e]⟩
theorem len_map {α : Type} (l : List α) (enc : α → D) : (l.map enc).length = l.length := List.length_map _
theorem all_bl (l : List Bool) {Q : D → Prop} : (match blsD (l.map D.bl) with | some ns => Ret.ok (.bl (ns.all id)) | none => .no).to Q = Q (.bl (l.all id)) := by rw [blsD_map]; rfl
theorem allD_map {α : Type} (l : List α) (p : α → Bool) {Q : D → Prop} (q : Q (.bl (l.all p))) : (match blsD (l.map fun a => D.bl (p a)) with | some ns => Ret.ok (.bl (ns.all id)) | none => .no).to Q := by
  have e : (l.map fun a => D.bl (p a)) = (l.map p).map D.bl := by rw [List.map_map]; rfl
  rw [e, all_bl, List.all_map]; exact q
theorem any_eqv {α : Type} [DecidableEq α] (enc : α → D) (h : ∀ a b, eqv (enc a) (enc b) = decide (a = b)) (x : α) (l : List α) : ((l.map enc).any fun d => eqv d (enc x)) = decide (x ∈ l) := by
  rw [List.any_map]
  induction l with
  | nil => rfl
  | cons a l ih =>
    rw [List.any_cons, ih]
    show (eqv (enc a) (enc x) || decide (x ∈ l)) = _
    rw [h a x]
    by_cases z : a = x
    · subst z; simp
    · simp [z, Ne.symm z]
theorem find_eqv {α : Type} [DecidableEq α] (enc : α → D) (h : ∀ a b, eqv (enc a) (enc b) = decide (a = b)) (x : α) : ∀ (l : List α), x ∈ l → (l.map enc).findIdx? (fun d => eqv d (enc x)) = some (l.idxOf x)
  | [], z => by cases z
  | a :: l, z => by
    rw [List.map_cons, List.findIdx?_cons, h a x, List.idxOf_cons]
    by_cases e : a = x
    · subst e; simp
    · have : x ∈ l := by rcases List.mem_cons.mp z with q | q; exact absurd q.symm e; exact q
      rw [find_eqv enc h x l this]
      have e' : (a == x) = false := by simpa using e
      simp [e, e']
theorem count_eqv {α : Type} [DecidableEq α] (enc : α → D) (h : ∀ a b, eqv (enc a) (enc b) = decide (a = b)) (x : α) (l : List α) : (l.map enc).countP (fun d => eqv d (enc x)) = l.count x := by
  rw [List.countP_map]
  unfold List.count
  refine List.countP_congr fun a _ => ?_
  show eqv (enc a) (enc x) = true ↔ (a == x) = true
  rw [h a x]; simp
/-! ### dicts of numbers -/
theorem look_nat (m : Nat) (f : Nat → D) : ∀ l : List Nat, lookD (.inl (m : Int)) (l.map nI) (l.map f) = if m ∈ l then some (f m) else none
  | [] => by simp [lookD]
  | s :: l => by
    show (if kyD (nI s) = some (.inl (m : Int)) then some (f s) else lookD _ (l.map nI) (l.map f)) = _
    rw [look_nat m f l]
    by_cases h : s = m
    · subst h
      rw [if_pos (show kyD (nI s) = some (.inl (s : Int)) from rfl), if_pos List.mem_cons_self]
    · have : kyD (nI s) ≠ some (.inl (m : Int)) := fun e => h (by
        have e : some (Sum.inl (s : Int)) = (some (.inl (m : Int)) : Option Key) := e
        injection e with e; injection e with e; omega)
      rw [if_neg this]
      have h2 : (m ∈ s :: l) ↔ m ∈ l := by simp [Ne.symm h]
      simp only [h2]
theorem hasK_nat (m : Nat) : ∀ l : List Nat, hasK (.inl (m : Int)) (l.map nI) = decide (m ∈ l)
  | [] => rfl
  | s :: l => by
    show (decide (kyD (nI s) = some (.inl (m : Int))) || hasK _ (l.map nI)) = _
    rw [hasK_nat m l]
    by_cases h : s = m
    · subst h
      simp [kyD]
    · have : kyD (nI s) ≠ some (.inl (m : Int)) := fun e => h (by
        have e : some (Sum.inl (s : Int)) = (some (.inl (m : Int)) : Option Key) := e
        injection e with e; injection e with e; omega)
      simp [this, Ne.symm h]
theorem putX_nat (m : Nat) (v : D) (f : Nat → D) : ∀ l : List Nat, putX (.inl (m : Int)) v (l.map nI) (l.map f) = l.map fun s => if s = m then v else f s
  | [] => rfl
  | s :: l => by
    show (if kyD (nI s) = some (.inl (m : Int)) then v else f s) :: putX _ v (l.map nI) (l.map f) = _
    rw [putX_nat m v f l, List.map_cons]
    by_cases h : s = m
    · subst h
      rw [if_pos (show kyD (nI s) = some (.inl (s : Int)) from rfl), if_pos rfl]
    · have : kyD (nI s) ≠ some (.inl (m : Int)) := fun e => h (by
        have e : some (Sum.inl (s : Int)) = (some (.inl (m : Int)) : Option Key) := e
        injection e with e; injection e with e; omega)
      rw [if_neg this, if_neg h]
/-! ### shapes -/
def seqK (d : D) (Q : List D → Prop) : Prop := match d with | .lst ds => Q ds | .tup ds => Q ds | _ => False
theorem iSeq_eq {t : DT} {ρ : DEnv} {Q : List D → Prop} {E : EX → Prop} : iSeq t ρ Q E = t ρ (fun d => seqK d Q) E := rfl
theorem seqK_lst {xs : List D} {Q : List D → Prop} : seqK (.lst xs) Q = Q xs := rfl
theorem seqK_tup {xs : List D} {Q : List D → Prop} : seqK (.tup xs) Q = Q xs := rfl
theorem seqK_tupN {r : List Nat} {Q : List D → Prop} : seqK (tupN r) Q = Q (r.map nI) := rfl
theorem seqK_tabD {t : GT.Tb} {Q : List D → Prop} : seqK (tabD t) Q = Q (t.map tupN) := rfl
theorem seqD_lst {xs : List D} : seqD (.lst xs) = some (.L, xs) := rfl
theorem seqD_tup {xs : List D} : seqD (.tup xs) = some (.T, xs) := rfl
theorem seqD_tupN {r : List Nat} : seqD (tupN r) = some (.T, r.map nI) := rfl
theorem seqD_tabD {t : GT.Tb} : seqD (tabD t) = some (.T, t.map tupN) := rfl
theorem len_lst {xs : List D} : lenD2 [.lst xs] = .ok (nI xs.length) := rfl
theorem len_tup {xs : List D} : lenD2 [.tup xs] = .ok (nI xs.length) := rfl
theorem len_tupN {r : List Nat} : lenD2 [tupN r] = .ok (nI r.length) := by
  show Ret.ok (nI (r.map nI).length) = _; rw [len_map]
theorem len_tabD {t : GT.Tb} : lenD2 [tabD t] = .ok (nI t.length) := by
  show Ret.ok (nI (t.map tupN).length) = _; rw [len_map]
theorem list_lst {xs : List D} : listD [.lst xs] = .ok (.lst xs) := rfl
theorem list_tup {xs : List D} : listD [.tup xs] = .ok (.lst xs) := rfl
theorem list_tupN {r : List Nat} : listD [tupN r] = .ok (.lst (r.map nI)) := rfl
theorem tuple_lst {xs : List D} : tupleD [.lst xs] = .ok (.tup xs) := rfl
theorem tuple_tup {xs : List D} : tupleD [.tup xs] = .ok (.tup xs) := rfl
theorem tuple_tupN {r : List Nat} : tupleD [tupN r] = .ok (tupN r) := rfl
theorem isSeq_lst {xs : List D} : isSeq (.lst xs) = True := rfl
theorem isSeq_tup {xs : List D} : isSeq (.tup xs) = True := rfl
theorem isSeq_tupN {r : List Nat} : isSeq (tupN r) = True := rfl
/-- the lists of numbers by their name -/
theorem fold_tupN (r : List Nat) : D.tup (r.map nI) = tupN r := rfl
theorem rgD_lst (n : Nat) : rgD 0 (n : Int) = (List.range n).map nI := by
  unfold rgD
  rw [Int.sub_zero, Int.toNat_natCast]
  exact List.map_congr_left fun i _ => congrArg D.int (Int.zero_add _)
theorem in_tupN {x : Nat} {r : List Nat} {Q : D → Prop} : (inD2 (nI x) (tupN r)).to Q = Q (.bl (decide (x ∈ r))) := by
  show (Ret.cond ((okd (nI x) && okd (tupN r)) = true) (.bl ((r.map nI).any fun d => eqv d (nI x)))).to Q = _
  rw [any_eqv nI eqv_nI, okd_tupN]
  exact propext ⟨fun h => h.2, fun h => ⟨rfl, h⟩⟩
theorem in_lstN {x : Nat} {r : List Nat} {Q : D → Prop} : (inD2 (nI x) (.lst (r.map nI))).to Q = Q (.bl (decide (x ∈ r))) := by
  show (Ret.cond ((okd (nI x) && okd (.lst (r.map nI))) = true) (.bl ((r.map nI).any fun d => eqv d (nI x)))).to Q = _
  rw [any_eqv nI eqv_nI, okd_lstN]
  exact propext ⟨fun h => h.2, fun h => ⟨rfl, h⟩⟩
theorem notIn_tupN {x : Nat} {r : List Nat} {Q : D → Prop} : (notInD2 (nI x) (tupN r)).to Q = Q (.bl (!decide (x ∈ r))) := by
  show (Ret.cond ((okd (nI x) && okd (tupN r)) = true) (.bl (!(r.map nI).any fun d => eqv d (nI x)))).to Q = _
  rw [any_eqv nI eqv_nI, okd_tupN]
  exact propext ⟨fun h => h.2, fun h => ⟨rfl, h⟩⟩
theorem index_tupN {x : Nat} {r : List Nat} {Q : D → Prop} (h : x ∈ r) : (indexD (tupN r) [nI x]).to Q = Q (nI (r.idxOf x)) := by
  have e : indexD (tupN r) [nI x] = .cond ((okd (nI x) && okd (.lst (r.map nI))) = true) (nI (r.idxOf x)) := by
    show ixOf (r.map nI) (nI x) = _
    unfold ixOf
    rw [find_eqv nI eqv_nI x r h]
  rw [e, okd_lstN]
  exact propext ⟨fun h => h.2, fun h => ⟨rfl, h⟩⟩
theorem count_lstN {x : Nat} {r : List Nat} {Q : D → Prop} : (countD (.lst (r.map nI)) [nI x]).to Q = Q (nI (r.count x)) := by
  show (Ret.cond ((okd (nI x) && okd (.lst (r.map nI))) = true) (nI ((r.map nI).countP fun d => eqv d (nI x)))).to Q = _
  rw [count_eqv nI eqv_nI, okd_lstN]
  exact propext ⟨fun h => h.2, fun h => ⟨rfl, h⟩⟩
theorem rgOk {n : Nat} (h : n ≤ 1000) : RgOk 0 (n : Int) := by unfold RgOk; omega
theorem all_lstB {l : List Bool} : allD [.lst (l.map D.bl)] = .ok (.bl (l.all id)) := by
  show (match blsD (l.map D.bl) with | some ns => Ret.ok (.bl (ns.all id)) | none => .no) = _
  rw [blsD_map]
theorem any_lstB {l : List Bool} : anyD [.lst (l.map D.bl)] = .ok (.bl (l.any id)) := by
  show (match blsD (l.map D.bl) with | some ns => Ret.ok (.bl (ns.any id)) | none => .no) = _
  rw [blsD_map]
theorem intsD_nat (l : List Nat) : intsD (l.map nI) = some (l.map fun (x : Nat) => (x : Int)) := by
  rw [show l.map nI = (l.map fun (x : Nat) => (x : Int)).map D.int by rw [List.map_map]; rfl, intsD_map]
theorem all_true {α : Type} (l : List α) : ((l.map fun _ => true).all id) = true := by simp
end PL
set_option Elab.async false
set_option linter.all false
set_option maxRecDepth 100000
namespace KK
open PySem PySem.Spec PyProof.Rows L2 PL
def spDraw : SpD := fun ds Q E => ∃ many, ds = [.hand, .int many] ∧ 0 < many ∧ many < 2 ^ 30 ∧ ∀ k, 0 ≤ k → k < many → Q (.int k)
def T__law_hand : DS :=
 (dSeq
 (dOwnV 1 (dComp (iSeq (dScr 0)) (.name 2) bYes (dBin modD (dCall intD [(dCall absD [(dCall intD [(dVarB 2)])])]) (dBin powD (dC (.int 10)) (dC (.int 60)))) [2]))
 (dRet (dLst [(dVar 1), (dC (.int 0)), (dC (.int 0)), (dBin addD (dC (.int 8123)) (dBin mulD (dC (.int 17)) (dCall lenD2 [(dVarB 1)]))), (dC (.int 0))])))
def T__law_any (sp__law_draw : SpD) : DS :=
 (dRet (dBin itD (dVarB 1) (dFun sp__law_draw [(dVar 0), (dCall lenD2 [(dVarB 1)])])))
def P__law_any : SpD := spBody 2 (T__law_any spDraw)
def T__law_rule (sp__law_draw sp__law_any : SpD) : DS :=
 (dSeq
 (dAsg (.name 1) (dLst [(dTup [(dC (.str "orders")), (dC (.int 0))]), (dTup [(dC (.str "orders")), (dC (.int 1))]), (dTup [(dC (.str "three"))]), (dTup [(dC (.str "table"))]), (dTup [(dC (.str "led")), (dC (.int 5)), (dC (.int 4)), (dC (.int 2))]), (dTup [(dC (.str "led")), (dC (.int 7)), (dC (.int 3)), (dC (.int 2))])]))
 (dSeq
 (dAsg (.name 2) (dLst [(dTup [(dC (.int 8)), (dC (.int 3))]), (dTup [(dC (.int 8)), (dC (.int 5))]), (dTup [(dC (.int 8)), (dC (.int 7))]), (dTup [(dC (.int 9)), (dC (.int 8))]), (dTup [(dC (.int 11)), (dC (.int 10))]), (dTup [(dC (.int 13)), (dC (.int 12))]), (dTup [(dC (.int 15)), (dC (.int 4))]), (dTup [(dC (.int 15)), (dC (.int 11))]), (dTup [(dC (.int 15)), (dC (.int 14))]), (dTup [(dC (.int 16)), (dC (.int 7))]), (dTup [(dC (.int 16)), (dC (.int 9))])]))
 (dSeq
 (dAsg (.name 1) (dBin addD (dVarB 1) (dComp (iSeq (dBin addD (dVarB 2) (dLst [(dTup [(dC (.int 16)), (dC (.int 15))])]))) (.tup [(.name 3), (.name 4)]) bYes (dTup [(dC (.str "led")), (dVar 3), (dC (.int 2)), (dVar 4)]) [3, 4])))
 (dSeq
 (dAsg (.name 1) (dBin addD (dVarB 1) (dLst [(dTup [(dC (.str "led")), (dC (.int 9)), (dC (.int 3)), (dC (.int 4))]), (dTup [(dC (.str "led")), (dC (.int 9)), (dC (.int 3)), (dC (.int 7))]), (dTup [(dC (.str "led")), (dC (.int 3)), (dC (.int 4)), (dC (.int 2))])])))
 (dSeq
 (dOwn 5 (dLst [(dTup [(dC (.int 2)), (dC (.int 2)), (dC (.int 2)), (dC (.int 2))]), (dTup [(dC (.int 3)), (dC (.int 3)), (dC (.int 3))]), (dTup [(dC (.int 2)), (dC (.int 4)), (dC (.int 4))]), (dTup [(dC (.int 2)), (dC (.int 2)), (dC (.int 2)), (dC (.int 2)), (dC (.int 2))]), (dTup [(dC (.int 2)), (dC (.int 3)), (dC (.int 5))]), (dTup [(dC (.int 4)), (dC (.int 8))]), (dTup [(dC (.int 5)), (dC (.int 5))]), (dTup [(dC (.int 3)), (dC (.int 9))]), (dTup [(dC (.int 2)), (dC (.int 12))])]))
 (dSeq
 (dApp 5 (dTup [(dC (.int 4)), (dC (.int 2)), (dC (.int 3))]))
 (dSeq
 (dAsg (.name 6) (dFun sp__law_draw [(dVar 0), (dC (.int 5))]))
 (dSeq
 (dIf (dTest (dBin eqD (dVarB 6) (dC (.int 0))))
 (dRet (dTup [(dC (.str "turns")), (dBin addD (dC (.int 5)) (dFun sp__law_draw [(dVar 0), (dC (.int 12))]))]))
 dNext)
 (dSeq
 (dIf (dTest (dBin eqD (dVarB 6) (dC (.int 1))))
 (dRet (dTup [(dC (.str "quarters")), (dBin addD (dC (.int 3)) (dFun sp__law_draw [(dVar 0), (dC (.int 6))]))]))
 dNext)
 (dSeq
 (dIf (dTest (dBin eqD (dVarB 6) (dC (.int 2))))
 (dRet (dTup [(dC (.str "rings")), (dFun sp__law_any [(dVar 0), (dBin addD (dVarB 5) (dLst [(dTup [(dBin addD (dC (.int 9)) (dFun sp__law_draw [(dVar 0), (dC (.int 24))]))])]))])]))
 dNext)
 (dRet (dFun sp__law_any [(dVar 0), (dVar 1)]))))))))))))
def P__law_rule : SpD := spBody 7 (T__law_rule spDraw P__law_any)
def T__law_wrong : DS :=
 (dSeq
 (dAsg (.name 1) (dC (.int 0)))
 (dSeq
 (dFor (iEnumD (dVar 0)) (.tup [(.name 2), (.name 3)])
 (dAsg (.name 1) (dBin addD (dVarB 1) (dCall lenD2 [(dComp (iSeq (dSl (dVarB 0) (some (dBin addD (dVarB 2) (dC (.int 1)))) none)) (.name 4) (dTest (dBin ltD (dVarB 4) (dVarB 3))) (dVar 4) [4])]))))
 (dRet (dVar 1))))
def P__law_wrong : SpD := spBody 5 T__law_wrong
def T__law_members (sp__law_wrong sp__law_members : SpD) : DS :=
 (dSeq
 (dIf (dTest (dBin eqD (dBin itD (dVarB 0) (dC (.int 0))) (dC (.str "rings"))))
 (dSeq
 (dOwn 1 (dLst [(dTup [])]))
 (dSeq
 (dFor (iSeq (dBin itD (dVarB 0) (dC (.int 1)))) (.name 2)
 (dSeq
 (dOwn 3 (dLst []))
 (dSeq
 (dFr 1 (dFor (iSeq (dVar 1)) (.name 4)
 (dExt 3 (dComp (iRange1 [(dVar 2)]) (.name 5) bYes (dBin addD (dVarB 4) (dTup [(dVar 5)])) [5]))))
 (dFr 3 (dAsg (.name 1) (dVar 3))))))
 (dFr 1 (dRet (dVar 1)))))
 dNext)
 (dSeq
 (dIf (dTest (dBin inD2 (dBin itD (dVarB 0) (dC (.int 0))) (dTup [(dC (.str "turns")), (dC (.str "quarters"))])))
 (dSeq
 (dAsg (.name 6) (dIfE (dTest (dBin eqD (dBin itD (dVarB 0) (dC (.int 0))) (dC (.str "turns")))) (dBin itD (dVarB 0) (dC (.int 1))) (dBin mulD (dC (.int 2)) (dBin itD (dVarB 0) (dC (.int 1))))))
 (dRet (dBin addD (dComp (iRange1 [(dVar 6)]) (.name 7) bYes (dTup [(dVar 7), (dC (.int 0))]) [7]) (dComp (iRange1 [(dVar 6)]) (.name 7) bYes (dTup [(dVar 7), (dC (.int 1))]) [7]))))
 dNext)
 (dSeq
 (dIf (dTest (dBin eqD (dBin itD (dVarB 0) (dC (.int 0))) (dC (.str "led"))))
 (dSeq
 (dOwn 1 (dLst []))
 (dSeq
 (dFor (iRange1 [(dBin itD (dVarB 0) (dC (.int 2)))]) (.name 8)
 (dExt 1 (dComp (iRange1 [(dBin itD (dVarB 0) (dC (.int 1)))]) (.name 9) bYes (dTup [(dVar 8), (dVar 9)]) [9])))
 (dFr 1 (dRet (dVar 1)))))
 dNext)
 (dSeq
 (dIf (dTest (dBin eqD (dBin itD (dVarB 0) (dC (.int 0))) (dC (.str "orders"))))
 (dSeq
 (dOwn 1 (dLst [(dTup [])]))
 (dSeq
 (dFor (iRange1 [(dC (.int 4))]) (.name 10)
 (dSeq
 (dOwn 3 (dLst []))
 (dSeq
 (dFr 1 (dFor (iSeq (dVar 1)) (.name 4)
 (dExt 3 (dComp (iRange1 [(dC (.int 4))]) (.name 5) (dTest (dBin notInD2 (dVarB 5) (dVarB 4))) (dBin addD (dVarB 4) (dTup [(dVar 5)])) [5]))))
 (dFr 3 (dAsg (.name 1) (dVar 3))))))
 (dFr 1 (dRet (dComp (iSeq (dVar 1)) (.name 4) (bOr (dTest (dBin eqD (dBin itD (dVarB 0) (dC (.int 1))) (dC (.int 0)))) (dTest (dBin eqD (dBin modD (dCall intD [(dFun sp__law_wrong [(dVar 4)])]) (dC (.int 2))) (dC (.int 0))))) (dVar 4) [4])))))
 dNext)
 (dSeq
 (dIf (dTest (dBin eqD (dBin itD (dVarB 0) (dC (.int 0))) (dC (.str "three"))))
 (dRet (dFun sp__law_members [(dTup [(dC (.str "rings")), (dTup [(dC (.int 3)), (dC (.int 3)), (dC (.int 3))])])]))
 dNext)
 (dSeq
 (dOwn 1 (dLst []))
 (dSeq
 (dFor (iSeq (dFun sp__law_members [(dTup [(dC (.str "rings")), (dTup [(dC (.int 3)), (dC (.int 3)), (dC (.int 3)), (dC (.int 3))])])])) (.tup [(.name 8), (.name 11), (.name 12), (.name 13)])
 (dExt 1 (dIfE (dTest (dBin eqD (dBin modD (dCall intD [(dBin subD (dBin mulD (dVarB 8) (dVarB 13)) (dBin mulD (dVarB 11) (dVarB 12)))]) (dC (.int 3))) (dC (.int 1)))) (dLst [(dTup [(dTup [(dVar 8), (dVar 11)]), (dTup [(dVar 12), (dVar 13)])])]) (dLst []))))
 (dFr 1 (dRet (dBin addD (dLst [(dTup [(dTup [(dC (.int 1)), (dC (.int 0))]), (dTup [(dC (.int 0)), (dC (.int 1))])])]) (dComp (iSeq (dVar 1)) (.name 5) (dTest (dBin neD (dVarB 5) (dTup [(dTup [(dC (.int 1)), (dC (.int 0))]), (dTup [(dC (.int 0)), (dC (.int 1))])]))) (dVar 5) [5])))))))))))
def P__law_members0 : SpD := spBody 14 (T__law_members P__law_wrong (fun _ _ _ => False))
def P__law_members : SpD := spBody 14 (T__law_members P__law_wrong P__law_members0)
def T__law_times : DS :=
 (dSeq
 (dAsg (.name 3) (dBin itD (dVarB 0) (dC (.int 0))))
 (dSeq
 (dIf (dTest (dBin eqD (dVarB 3) (dC (.str "rings"))))
 (dRet (dCall tupleD [(dComp (iZip3 (dVar 1) (dVar 2) (dBin itD (dVarB 0) (dC (.int 1)))) (.tup [(.name 4), (.name 5), (.name 6)]) bYes (dBin modD (dCall intD [(dBin addD (dVarB 4) (dVarB 5))]) (dVarB 6)) [4, 5, 6])]))
 dNext)
 (dSeq
 (dIf (dTest (dBin eqD (dVarB 3) (dC (.str "turns"))))
 (dRet (dTup [(dBin modD (dCall intD [(dBin addD (dBin itD (dVarB 1) (dC (.int 0))) (dIfE (dTest (dBin eqD (dBin itD (dVarB 1) (dC (.int 1))) (dC (.int 0)))) (dBin itD (dVarB 2) (dC (.int 0))) (dBin subD (dC (.int 0)) (dBin itD (dVarB 2) (dC (.int 0))))))]) (dBin itD (dVarB 0) (dC (.int 1)))), (dBin modD (dCall intD [(dBin addD (dBin itD (dVarB 1) (dC (.int 1))) (dBin itD (dVarB 2) (dC (.int 1))))]) (dC (.int 2)))]))
 dNext)
 (dSeq
 (dIf (dTest (dBin eqD (dVarB 3) (dC (.str "quarters"))))
 (dSeq
 (dAsg (.name 7) (dIfE (dTest (dBin eqD (dBin addD (dBin itD (dVarB 1) (dC (.int 1))) (dBin itD (dVarB 2) (dC (.int 1)))) (dC (.int 2)))) (dBin itD (dVarB 0) (dC (.int 1))) (dC (.int 0))))
 (dRet (dTup [(dBin modD (dCall intD [(dBin addD (dBin addD (dBin itD (dVarB 1) (dC (.int 0))) (dIfE (dTest (dBin eqD (dBin itD (dVarB 1) (dC (.int 1))) (dC (.int 0)))) (dBin itD (dVarB 2) (dC (.int 0))) (dBin subD (dC (.int 0)) (dBin itD (dVarB 2) (dC (.int 0)))))) (dVarB 7))]) (dCall intD [(dBin mulD (dC (.int 2)) (dBin itD (dVarB 0) (dC (.int 1))))])), (dBin modD (dCall intD [(dBin addD (dBin itD (dVarB 1) (dC (.int 1))) (dBin itD (dVarB 2) (dC (.int 1))))]) (dC (.int 2)))])))
 dNext)
 (dSeq
 (dIf (dTest (dBin eqD (dVarB 3) (dC (.str "led"))))
 (dSeq
 (dAsg (.name 8) (dBin itD (dVarB 1) (dC (.int 1))))
 (dSeq
 (dFor (iRange1 [(dBin itD (dVarB 2) (dC (.int 0)))]) (.name 9)
 (dAsg (.name 8) (dBin modD (dCall intD [(dBin mulD (dVarB 8) (dBin itD (dVarB 0) (dC (.int 3))))]) (dBin itD (dVarB 0) (dC (.int 1))))))
 (dRet (dTup [(dBin modD (dCall intD [(dBin addD (dBin itD (dVarB 1) (dC (.int 0))) (dBin itD (dVarB 2) (dC (.int 0))))]) (dBin itD (dVarB 0) (dC (.int 2)))), (dBin modD (dCall intD [(dBin addD (dVarB 8) (dBin itD (dVarB 2) (dC (.int 1))))]) (dBin itD (dVarB 0) (dC (.int 1))))]))))
 dNext)
 (dSeq
 (dIf (dTest (dBin eqD (dVarB 3) (dC (.str "orders"))))
 (dRet (dCall tupleD [(dComp (iSeq (dVar 1)) (.name 10) bYes (dBin itD (dVarB 2) (dVarB 10)) [10])]))
 dNext)
 (dSeq
 (dIf (dTest (dBin eqD (dVarB 3) (dC (.str "three"))))
 (dRet (dTup [(dBin modD (dCall intD [(dBin addD (dBin itD (dVarB 1) (dC (.int 0))) (dBin itD (dVarB 2) (dC (.int 0))))]) (dC (.int 3))), (dBin modD (dCall intD [(dBin addD (dBin itD (dVarB 1) (dC (.int 1))) (dBin itD (dVarB 2) (dC (.int 1))))]) (dC (.int 3))), (dBin modD (dCall intD [(dBin addD (dBin addD (dBin itD (dVarB 1) (dC (.int 2))) (dBin itD (dVarB 2) (dC (.int 2)))) (dBin mulD (dBin itD (dVarB 1) (dC (.int 0))) (dBin itD (dVarB 2) (dC (.int 1)))))]) (dC (.int 3)))]))
 dNext)
 (dSeq
 (dOwn 11 (dLst []))
 (dSeq
 (dFor (iSeq (dVar 1)) (.name 12)
 (dApp 11 (dCall tupleD [(dComp (iRange1 [(dC (.int 2))]) (.name 13) bYes (dBin modD (dCall intD [(dBin addD (dBin mulD (dBin itD (dVarB 12) (dC (.int 0))) (dBin itD (dBin itD (dVarB 2) (dC (.int 0))) (dVarB 13))) (dBin mulD (dBin itD (dVarB 12) (dC (.int 1))) (dBin itD (dBin itD (dVarB 2) (dC (.int 1))) (dVarB 13))))]) (dC (.int 3))) [13])])))
 (dRet (dCall tupleD [(dVarB 11)])))))))))))
def P__law_times : SpD := spBody 14 T__law_times
def T__law_table (sp__law_members sp__law_times : SpD) : DS :=
 (dSeq
 (dAsg (.name 1) (dFun sp__law_members [(dVar 0)]))
 (dSeq
 (dAsg (.name 2) (dCall dictTD [(dComp (iEnumD (dVar 1)) (.tup [(.name 3), (.name 4)]) bYes (dTup [(dVar 4), (dVar 3)]) [3, 4])]))
 (dRet (dCall tupleD [(dComp (iSeq (dVar 1)) (.name 6) bYes (dCall tupleD [(dComp (iSeq (dVar 1)) (.name 5) bYes (dBin itD (dVarB 2) (dFun sp__law_times [(dVar 0), (dVar 6), (dVar 5)])) [5])]) [6])]))))
def P__law_table : SpD := spBody 7 (T__law_table P__law_members P__law_times)
def T__law_called : DS :=
 (dSeq
 (dOwn 2 (dBin mulDO (dLst [(dC (.int 0))]) (dCall lenD2 [(dVarB 1)])))
 (dSeq
 (dFor (iEnumD (dVar 1)) (.tup [(.name 3), (.name 4)])
 (dSetIx 2 (dVar 3) (dVar 4)))
 (dRet (dCall tupleD [(dComp (iSeq (dVar 1)) (.name 6) bYes (dCall tupleD [(dComp (iSeq (dVar 1)) (.name 5) bYes (dBin itD (dVarB 2) (dBin itD (dBin itD (dVarB 0) (dVarB 6)) (dVarB 5))) [5])]) [6])]))))
def P__law_called : SpD := spBody 7 T__law_called
def T__law_names (sp__law_draw : SpD) : DS :=
 (dSeq
 (dPar 2 3 .o .o (dRgL (gR2 (dC (.int 1)) (dVar 1))) (dLst [(dC (.int 0))]))
 (dSeq
 (dWhile (dTest (dBin gtD (dCall lenD2 [(dVarB 2)]) (dC (.int 0))))
 (dAppPop 3 2 (dFun sp__law_draw [(dVar 0), (dCall lenD2 [(dVarB 2)])])))
 (dRet (dCall tupleD [(dVarB 3)]))))
def P__law_names : SpD := spBody 4 (T__law_names spDraw)
def T_is_tuple : DS :=
 (dRet (dAnd (dCall isiR [(dVarB 0), (dC (.ty "tuple"))]) (dChain leD leD (dVarB 1) (dCall lenD2 [(dVarB 0)]) (dVarB 2))))
def P_is_tuple : SpD := spBody 3 T_is_tuple
-- NOT SERVED BadGroup.__init__: stmt super().__init__('BadGroup')
def T_goes_together : DS :=
 (dSeq
 (dFor (iSeq (dVar 0)) (.name 1)
 (dFor (iEnumD (dVar 1)) (.tup [(.name 2), (.name 3)])
 (dIf (dTest (dBin neD (dCall tupleD [(dComp (iSeq (dBin itD (dVarB 0) (dVarB 2))) (.name 4) bYes (dBin itD (dVarB 1) (dVarB 4)) [4])]) (dBin itD (dVarB 0) (dVarB 3))))
 (dRet (dC (.bl false)))
 dNext)))
 (dRet (dC (.bl true))))
def P_goes_together : SpD := spBody 5 T_goes_together
def T_is_integer : DS :=
 (dRet (dAnd (dCall isiR [(dVarB 0), (dC (.ty "int"))]) (dNot (dCall isiR [(dVarB 0), (dC (.ty "bool"))]))))
def P_is_integer : SpD := spBody 1 T_is_integer
def T_is_within (sp_is_integer : SpD) : DS :=
 (dRet (dAnd (dFun sp_is_integer [(dVar 0)]) (dChain leD leD (dVarB 1) (dVarB 0) (dVarB 2))))
def P_is_within : SpD := spBody 3 (T_is_within P_is_integer)
def T_Group___init__ (sp_is_tuple sp_is_within sp_goes_together : SpD) : DS :=
 (dSeq
 (dIf (bNot (dTest (dFun sp_is_tuple [(dVar 1), (dC (.int 1)), (dC (.int 32))])))
 dNever
 dNext)
 (dSeq
 (dAsg (.name 2) (dCall lenD2 [(dVarB 1)]))
 (dSeq
 (dFor (iEnumD (dVar 1)) (.tup [(.name 3), (.name 4)])
 (dIf (bOr (bNot (dTest (dFun sp_is_tuple [(dVar 4), (dVar 2), (dVar 2)]))) (bNot (dTest (dCall allD [(dComp (iSeq (dVar 4)) (.name 5) bYes (dFun sp_is_within [(dVar 5), (dC (.int 0)), (dBin subD (dVarB 2) (dC (.int 1)))]) [5])]))))
 dNever
 dNext))
 (dSeq
 (dIf (bOr (dTest (dBin neD (dCall listD [(dBin itD (dVarB 1) (dC (.int 0)))]) (dRgL (gR1 (dVar 2))))) (dTest (dBin neD (dComp (iSeq (dVar 1)) (.name 4) bYes (dBin itD (dVarB 4) (dC (.int 0))) [4]) (dRgL (gR1 (dVar 2))))))
 dNever
 dNext)
 (dSeq
 (dIf (bNot (dTest (dCall allD [(dComp (iSeq (dVar 1)) (.name 4) bYes (dBin inD2 (dC (.int 0)) (dVarB 4)) [4])])))
 dNever
 dNext)
 (dSeq
 (dIf (bNot (dTest (dFun sp_goes_together [(dVar 1)])))
 dNever
 dNext)
 (dSeq
 (dSetF 0 "Group" "table" (dVar 1))
 (dSeq
 (dSetF 0 "Group" "many" (dVar 2))
 (dSetF 0 "Group" "backs" (dCall tupleD [(dComp (iSeq (dVar 1)) (.name 4) bYes (dMth indexD (dVarB 4) [(dC (.int 0))]) [4])]))))))))))
def P_Group : SpD := spBodyI 6 "Group" (T_Group___init__ P_is_tuple P_is_within P_goes_together)
def T__law_row : DS :=
 (dSeq
 (dPar 2 3 .o .v (dLst [(dC (.int 0))]) (dVar 1))
 (dSeq
 (dWhile (dTest (dBin neD (dVarB 3) (dC (.int 0))))
 (dSeq
 (dApp 2 (dVar 3))
 (dAsg (.name 3) (dBin itD (dBin itD (dVarB 0) (dVarB 3)) (dVarB 1)))))
 (dRet (dCall tupleD [(dVarB 2)]))))
def P__law_row : SpD := spBody 4 T__law_row
def T_order_of : DS :=
 (dSeq
 (dPar 2 3 .v .v (dVar 1) (dC (.int 1)))
 (dSeq
 (dWhile (dTest (dBin neD (dVarB 2) (dC (.int 0))))
 (dPar 2 3 .v .v (dBin itD (dBin itD (dFld (["Group"] : List Str) "table" (dVarB 0)) (dVarB 2)) (dVarB 1)) (dBin addD (dVarB 3) (dC (.int 1)))))
 (dRet (dVar 3))))
def P_order_of : SpD := spBody 4 T_order_of
def T_orders_of (sp_order_of : SpD) : DS :=
 (dRet (dComp (iRange1 [(dFld (["Group"] : List Str) "many" (dVarB 0))]) (.name 1) bYes (dFun sp_order_of [(dVar 0), (dVar 1)]) [1]))
def P_orders_of : SpD := spBody 2 (T_orders_of P_order_of)
def T_order_counts (sp_orders_of : SpD) : DS :=
 (dSeq
 (dOwn 1 (dC (.dct [] [])))
 (dSeq
 (dFor (iSeq (dFun sp_orders_of [(dVar 0)])) (.name 2)
 (dPut 1 (dVar 2) (dBin addD (dGet2 (dVarB 1) (dVar 2) (dC (.int 0))) (dC (.int 1)))))
 (dRet (dSortItems (dVarB 1)))))
def P_order_counts : SpD := spBody 3 (T_order_counts P_orders_of)
def T__law_is_plain : DS :=
 (dSeq
 (dIf (dTest (dBin eqD (dBin itD (dVarB 0) (dC (.int 0))) (dC (.str "turns"))))
 (dRet (dTup [(dBin ltD (dBin itD (dVarB 0) (dC (.int 1))) (dC (.int 3))), (dBin eqD (dBin itD (dVarB 0) (dC (.int 1))) (dC (.int 1)))]))
 dNext)
 (dSeq
 (dIf (dTest (dBin neD (dBin itD (dVarB 0) (dC (.int 0))) (dC (.str "rings"))))
 (dRet (dTup [(dC (.bl false)), (dC (.bl false))]))
 dNext)
 (dSeq
 (dFor (iEnumD (dBin itD (dVarB 0) (dC (.int 1)))) (.tup [(.name 1), (.name 2)])
 (dFor (iSeq (dSl (dBin itD (dVarB 0) (dC (.int 1))) (some (dBin addD (dVarB 1) (dC (.int 1)))) none)) (.name 3)
 (dSeq
 (dPar 4 5 .v .v (dVar 2) (dVar 3))
 (dSeq
 (dWhile (dTest (dBin gtD (dVarB 5) (dC (.int 0))))
 (dPar 4 5 .v .v (dVar 5) (dBin modD (dCall intD [(dVarB 4)]) (dVarB 5))))
 (dIf (dTest (dBin gtD (dVarB 4) (dC (.int 1))))
 (dRet (dTup [(dC (.bl true)), (dC (.bl false))]))
 dNext)))))
 (dRet (dTup [(dC (.bl true)), (dC (.bl true))])))))
def P__law_is_plain : SpD := spBody 6 T__law_is_plain
def T__law_is : DS :=
 (dRet (dBin eqD (dCall reprD [(dVarB 0)]) (dCall reprD [(dVarB 1)])))
def P__law_is : SpD := spBody 2 T__law_is
def T_shared : DS :=
 (dSeq
 (dWhile (dTest (dBin gtD (dVarB 1) (dC (.int 0))))
 (dPar 0 1 .v .v (dVar 1) (dBin modD (dVarB 0) (dVarB 1))))
 (dRet (dVar 0)))
def P_shared : SpD := spBody 2 T_shared
def T_exponent (sp_orders_of sp_shared : SpD) : DS :=
 (dSeq
 (dAsg (.name 1) (dC (.int 1)))
 (dSeq
 (dFor (iSeq (dFun sp_orders_of [(dVar 0)])) (.name 2)
 (dAsg (.name 1) (dBin fdivD (dBin mulD (dVarB 1) (dVarB 2)) (dFun sp_shared [(dVar 1), (dVar 2)]))))
 (dRet (dVar 1))))
def P_exponent : SpD := spBody 3 (T_exponent P_orders_of P_shared)
def T_lines : DS :=
 (dSeq
 (dOwn 1 (dLst []))
 (dSeq
 (dFor (iRange1 [(dFld (["Group"] : List Str) "many" (dVarB 0))]) (.name 2)
 (dSeq
 (dPar 3 4 .o .v (dLst [(dC (.int 0))]) (dVar 2))
 (dSeq
 (dWhile (dTest (dBin neD (dVarB 4) (dC (.int 0))))
 (dSeq
 (dApp 3 (dVar 4))
 (dAsg (.name 4) (dBin itD (dBin itD (dFld (["Group"] : List Str) "table" (dVarB 0)) (dVarB 4)) (dVarB 2)))))
 (dApp 1 (dCall tupleD [(dVarB 3)])))))
 (dFr 1 (dRet (dVar 1)))))
def P_lines : SpD := spBody 5 T_lines
def T_is_even : DS :=
 (dRet (dBin eqD (dFld (["Group"] : List Str) "table" (dVarB 0)) (dCall tupleD [(dComp (iSeq (dZipStar (dFld (["Group"] : List Str) "table" (dVarB 0)))) (.name 1) bYes (dCall tupleD [(dVarB 1)]) [1])])))
def P_is_even : SpD := spBody 2 T_is_even
def T_is_round (sp_orders_of : SpD) : DS :=
 (dRet (dBin inD2 (dFld (["Group"] : List Str) "many" (dVarB 0)) (dFun sp_orders_of [(dVar 0)])))
def P_is_round : SpD := spBody 1 (T_is_round P_orders_of)
def T_law (sp__law_rule sp__law_table sp__law_called sp__law_names sp_Group sp__law_row sp_lines sp_order_counts sp__law_is_plain sp__law_is sp_is_even sp_is_round sp_exponent : SpD) : DS :=
 (dSeq
 (dFor (iRange1 [(dC (.int 4))]) (.name 2)
 (dSeq
 (dAsg (.name 3) (dFun sp__law_rule [(dVar 1)]))
 (dSeq
 (dAsg (.name 4) (dFun sp__law_table [(dVar 3)]))
 (dSeq
 (dAsg (.name 5) (dFun sp__law_called [(dVar 4), (dFun sp__law_names [(dVar 1), (dCall lenD2 [(dVarB 4)])])]))
 (dSeq
 (dPar 6 7 .v .v (dFun sp_Group [(dVar 5)]) (dComp (iRange1 [(dCall lenD2 [(dVarB 5)])]) (.name 8) bYes (dFun sp__law_row [(dVar 5), (dVar 8)]) [8]))
 (dSeq
 (dIf (bOr (dTest (dBin neD (dCall listD [(dFun sp_lines [(dVar 6)])]) (dVarB 7))) (bNot (dTest (dCall isiR [(dFun sp_lines [(dVar 6)]), (dC (.ty "list"))]))))
 (dRet (dC (.bl false)))
 dNext)
 (dSeq
 (dAsg (.name 9) (dComp (iSeq (dVar 7)) (.name 10) bYes (dCall lenD2 [(dVarB 10)]) [10]))
 (dSeq
 (dIf (dTest (dBin neD (dCall listD [(dFun sp_order_counts [(dVar 6)])]) (dComp (iSeq (dSortSet (dVarB 9))) (.name 11) bYes (dTup [(dVar 11), (dMth countD (dVarB 9) [(dVarB 11)])]) [11])))
 (dRet (dC (.bl false)))
 dNext)
 (dSeq
 (dAsg (.name 12) (dCall allD [(dComp (iEnumD (dVar 5)) (.tup [(.name 14), (.name 10)]) bYes (dBin eqD (dCall listD [(dVarB 10)]) (dComp (iSeq (dVar 5)) (.name 13) bYes (dBin itD (dVarB 13) (dVarB 14)) [13])) [14, 10])]))
 (dSeq
 (dAsg (.name 15) (dTup [(dVar 12), (dBin eqD (dCall maxD [(dVarB 9)]) (dCall lenD2 [(dVarB 5)]))]))
 (dSeq
 (dIf (bOr (dTest (dBin neD (dVarB 15) (dFun sp__law_is_plain [(dVar 3)]))) (bNot (dTest (dFun sp__law_is [(dLst [(dFun sp_is_even [(dVar 6)]), (dFun sp_is_round [(dVar 6)])]), (dCall listD [(dVarB 15)])]))))
 (dRet (dC (.bl false)))
 dNext)
 (dIf (bAnd (dTest (dVar 12)) (dTest (dBin neD (dFun sp_exponent [(dVar 6)]) (dCall maxD [(dVarB 9)]))))
 (dRet (dC (.bl false)))
 dNext))))))))))))
 (dRet (dC (.bl true))))
abbrev R_law : DS := T_law P__law_rule P__law_table P__law_called P__law_names P_Group P__law_row P_lines P_order_counts P__law_is_plain P__law_is P_is_even P_is_round P_exponent
def lawE : DEnv := none :: some (.val .hand) :: List.replicate 14 none
end KK
set_option Elab.async false
set_option linter.all false
set_option maxRecDepth 100000
namespace KK
open PySem PySem.Spec PyProof.Rows L2 PL GT
local macro_rules | `(tactic| walk_at "dw") => `(tactic| try simp only [dSeq, dPar, dVar, dVarB, dC, cK, dRet, dRetN, dDrop, dNext, dNever, dIf, dTest, bYes, bNot, bAnd, bOr, dAnd, dOr, dNot, dIfE, dChain, dBin, dUn, dArgs, dCall, dFun, dTup, dLst, dAsg, asg, asgs, Option.bind, dOwn, dApp, dExt, dSetIx, dAug, dFr, dOwnV, dAppPop, dMth, isSeq_lst, isSeq_tup, isSeq_tupN, dFor, iSeq_eq, seqK_lst, seqK_tup, seqK_tupN, seqK_tabD, seqD_lst, seqD_tup, seqD_tupN, seqD_tabD, iEnumD, iZip2, iZip3,  iRange1, iRange2, dRgL, dRgT, gR1, gR2, dComp, dZipStar, dRng_nat, rgD_lst, in_tupN, in_lstN, notIn_tupN, count_lstN, fold_tupN, dPut, dGet1, dGet2, dSortItems, wipeE, dFld_eq, fldK_table, fldK_many, fldK_backs, to_ok, to_cond,
  addD, subD, modD, fdivD, mulD, powD, negD, iaddD, ltD, leD, gtD, geD, eqD, neD, PL.intD, absD, sumD, all_lstB, any_lstB, all_true, len_lst, len_tup, len_tupN, len_tabD, List.length_map, List.length_range, list_lst, list_tup, list_tupN, tuple_lst, tuple_tup, tuple_tupN, addDO, mulDO, dOptI, dSl, dSlO, slD, isi_tup_tuple, isi_int_int, isi_int_bool, isi_lst_list, okd_int, okd_bl, okd_non, okd_tupN, okd_lstN, okd_tabD, eqv_int, eqv_tupN, eqv_lstN, eqv_tabD, Bool.and_self, true_and, and_true, Bool.true_and, Bool.and_true, Bool.and_false, Bool.not_true, Bool.not_false, Bool.false_eq_true, if_true, if_false, ite_true, ite_false, reduceIte, Bool.true_eq_false,
  List.map, List.length, List.append, List.replicate, List.cons_append, List.nil_append, Nat.sub_self, List.set, List.getElem?_cons_zero, List.getElem?_cons_succ, spBody, spBodyI, startE, startI, Nat.add_sub_cancel, Nat.reduceAdd, Nat.reduceSub, List.replicate_succ, List.replicate_zero, List.set_cons_zero, List.set_cons_succ])
theorem S_is_integer {i : Int} {Q : D → Prop} {E : EX → Prop} (q : Q (.bl true)) : P_is_integer [.int i] Q E := by
  unfold P_is_integer T_is_integer
  walk_at "dw"
  exact q
theorem S_is_within {i lo hi : Int} {Q : D → Prop} {E : EX → Prop} (q : Q (.bl (decide (lo ≤ i ∧ i ≤ hi)))) : P_is_within [.int i, .int lo, .int hi] Q E := by
  unfold P_is_within T_is_within
  walk_at "dw"
  refine S_is_integer ?_
  by_cases h : lo ≤ i
  · simp only [h, decide_true, true_and] at q ⊢; exact q
  · simp only [h, decide_false, false_and] at q ⊢; exact q
theorem S_is_tuple {r : List D} {lo hi : Int} {Q : D → Prop} {E : EX → Prop} (q : Q (.bl (decide (lo ≤ r.length ∧ (r.length : Int) ≤ hi)))) : P_is_tuple [.tup r, .int lo, .int hi] Q E := by
  unfold P_is_tuple T_is_tuple
  walk_at "dw"
  by_cases h : lo ≤ r.length
  · simp only [h, decide_true, true_and] at q ⊢; exact q
  · simp only [h, decide_false, false_and] at q ⊢; exact q
theorem S_order_of {t : Tb} {n : Nat} {bs : List Nat} {x : Nat} {Q : D → Prop} {E : EX → Prop} (G : Grp t n) (hx : x < n) (q : Q (nI (ord t x))) : P_order_of [grpD t n bs, nI x] Q E := by
  unfold P_order_of T_order_of
  walk_at "dw"
  refine whileI (fun k ρ => ∃ j, 0 < j ∧ j + k = ord t x ∧ ρ = [some (.val (grpD t n bs)), some (.val (nI x)), some (.val (nI (pw t x j))), some (.val (nI j))]) (ord t x - 1) ?_ ?_ ?_
  · have := (G.ord_spec hx).1
    exact ⟨1, by omega, by omega, by rw [pw_one G hx]; rfl⟩
  · rintro ρ ⟨j, hj, e, rfl⟩ R
    have e : j = ord t x := e
    walk_at "dw"
    have := (G.ord_spec hx).2.2.1
    refine ifF (by rw [e, this]; rfl) ?_
    rw [e]; exact q
  · rintro k ρ ⟨j, hj, e, rfl⟩ R hR
    walk_at "dw"
    have h1 := (G.ord_spec hx).2.2.2 j hj (by omega)
    refine ifT (by simp; omega) ?_
    have h2 := G.pw_lt hx j
    rw [it_tab G.toIsTab h2, to_ok, it_row (by rw [G.rowlen h2]; exact hx), to_ok]
    exact hR _ ⟨j + 1, by omega, by omega, rfl⟩
def ords (t : Tb) (n : Nat) : List Nat := (List.range n).map (ord t)
theorem S_orders_of {t : Tb} {n : Nat} {bs : List Nat} {Q : D → Prop} {E : EX → Prop} (G : Grp t n) (hn : n ≤ 1000) (q : Q (lstN (ords t n))) : P_orders_of [grpD t n bs] Q E := by
  unfold P_orders_of T_orders_of
  walk_at "dw"
  refine ⟨by omega, by omega, compLen (by omega) (compE (List.range n) nI (ord t) nI (fun x hx => ⟨_, rfl, fun R hR => ?_⟩) ?_)⟩
  · exact S_order_of G (List.mem_range.mp hx) hR
  · exact q
theorem S_shared {a b : Nat} {Q : D → Prop} {E : EX → Prop} (q : Q (nI (Nat.gcd b a))) : P_shared [nI a, nI b] Q E := by
  unfold P_shared T_shared
  walk_at "dw"
  refine whileM (α := Nat × Nat) (fun p ρ => Nat.gcd p.2 p.1 = Nat.gcd b a ∧ ρ = [some (.val (nI p.1)), some (.val (nI p.2))]) (fun p => p.2) (a, b) ⟨rfl, rfl⟩ ?_
  rintro ⟨x, y⟩ ρ ⟨e, rfl⟩ R hR
  walk_at "dw"
  by_cases h : y = 0
  · subst h
    refine ifF (by simp) ?_
    rw [Nat.gcd_zero_left] at e
    rw [show x = _ from e]; exact q
  · refine ifT (by simp; omega) ⟨by omega, hR (y, x % y) _ ⟨?_, ?_⟩ (Nat.mod_lt _ (by omega))⟩
    · show Nat.gcd (x % y) y = _
      rw [← e]; exact (Nat.gcd_rec y x).symm
    · rfl
theorem S_is_round {t : Tb} {n : Nat} {bs : List Nat} {Q : D → Prop} {E : EX → Prop} (G : Grp t n) (hn : n ≤ 1000) (q : Q (.bl (decide (n ∈ ords t n)))) : P_is_round [grpD t n bs] Q E := by
  unfold P_is_round T_is_round
  walk_at "dw"
  refine S_orders_of G hn ?_
  rw [in_lstN]
  exact q
def lcmF (os : List Nat) : Nat := os.foldl Nat.lcm 1
theorem lcm_pos {a b : Nat} (ha : 0 < a) (hb : 0 < b) : 0 < Nat.lcm a b := Nat.lcm_pos ha hb
theorem log2_small {x : Nat} (h : x < 2 ^ 1000) : x.log2 < 9000 := by
  by_cases z : x = 0
  · subst z; decide
  · exact Nat.lt_trans ((Nat.log2_lt z).mpr h) (by decide)
theorem S_exponent {t : Tb} {n : Nat} {bs : List Nat} {Q : D → Prop} {E : EX → Prop} (G : Grp t n) (hn : n ≤ 1000) (q : Q (nI (lcmF (ords t n)))) : P_exponent [grpD t n bs] Q E := by
  unfold P_exponent T_exponent
  walk_at "dw"
  refine S_orders_of G hn ?_
  show forK _ _ _ ((ords t n).map nI) _
  refine forI _ (fun i ρ => 0 < lcmF ((ords t n).take i) ∧ ∃ y, ρ = [some (.val (grpD t n bs)), some (.val (nI (lcmF ((ords t n).take i)))), y]) ⟨by rw [List.take_zero]; decide, none, rfl⟩ ?_ ?_
  · rintro i d ρ hd ⟨p0, y, rfl⟩
    obtain ⟨m, hm, rfl⟩ := map_get hd
    refine ⟨_, rfl, fun R hR => ?_⟩
    walk_at "dw"
    have hlt := getElem?_lt hm
    obtain ⟨x, hx, rfl⟩ : ∃ x, x < n ∧ m = ord t x := by
      have := List.mem_of_getElem? hm
      obtain ⟨x, hx, e⟩ := List.mem_map.mp this
      exact ⟨x, List.mem_range.mp hx, e.symm⟩
    obtain ⟨o1, o2, _⟩ := G.ord_spec hx
    refine ⟨.inl (.inr (by omega)), ?_⟩
    refine S_shared ?_
    have gp : 0 < Nat.gcd (ord t x) (lcmF ((ords t n).take i)) := Nat.gcd_pos_of_pos_left _ o1
    have gl : Nat.gcd (ord t x) (lcmF ((ords t n).take i)) ≤ ord t x := Nat.gcd_le_left _ o1
    refine ⟨⟨by omega, ?_⟩, hR _ ?_⟩
    · rw [Int.natAbs_natCast]
      refine log2_small (Nat.lt_of_le_of_lt (Nat.le_trans gl (Nat.le_trans o2 hn)) ?_)
      exact Nat.lt_of_lt_of_le (by decide : (1000 : Nat) < 2 ^ 10) (Nat.pow_le_pow_right (by decide) (by omega))
    · have e : lcmF ((ords t n).take (i + 1)) = Nat.lcm (lcmF ((ords t n).take i)) (ord t x) := by
        unfold lcmF
        rw [List.take_add_one, hm, List.foldl_append]; rfl
      refine ⟨?_, some (.val (nI (ord t x))), ?_⟩
      · rw [e]; exact Nat.lcm_pos p0 o1
      · rw [e]
        have : ((lcmF ((ords t n).take i) : Nat) : Int) * (ord t x : Nat) / (Nat.gcd (ord t x) (lcmF ((ords t n).take i)) : Nat) = ((Nat.lcm (lcmF ((ords t n).take i)) (ord t x) : Nat) : Int) := by
          unfold Nat.lcm
          rw [Nat.gcd_comm (lcmF _)]
          norm_cast
        rw [this]
  · rintro ρ ⟨p0, y, rfl⟩
    rw [len_map, List.take_length]
    walk_at "dw"
    exact q
/-! ### lines -/
def line (t : Tb) (x : Nat) : List Nat := (List.range (ord t x)).map (pw t x)
theorem line_len (t : Tb) (x : Nat) : (line t x).length = ord t x := by unfold line; simp
theorem range_pw (t : Tb) (x k : Nat) : ((List.range (k + 1)).map (pw t x)).map nI = ((List.range k).map (pw t x)).map nI ++ [nI (pw t x k)] := by
  rw [List.range_succ]; simp
theorem S_lines {t : Tb} {n : Nat} {bs : List Nat} {Q : D → Prop} {E : EX → Prop} (G : Grp t n) (hn : n ≤ 1000) (q : Q (.lst (((List.range n).map (line t)).map tupN))) : P_lines [grpD t n bs] Q E := by
  unfold P_lines T_lines
  walk_at "dw"
  refine ⟨by omega, by omega, ?_⟩
  refine forI _ (fun i ρ => ∃ a b c, ρ = [some (.val (grpD t n bs)), some (.own (.lst (((List.range i).map (line t)).map tupN))), a, b, c]) ⟨none, none, none, rfl⟩ ?_ ?_
  · rintro i d ρ hd ⟨a, b, c, rfl⟩
    have hi := getElem?_lt hd
    rw [len_map, List.length_range] at hi
    obtain ⟨x, hx, rfl⟩ := map_get hd
    rw [List.getElem?_range hi] at hx
    cases hx
    refine ⟨_, rfl, fun R hR => ?_⟩
    walk_at "dw"
    have os := G.ord_spec hi
    refine whileI (fun k ρ => ∃ j, 0 < j ∧ j + k = ord t i ∧ ρ = [some (.val (grpD t n bs)), some (.own (.lst (((List.range i).map (line t)).map tupN))), some (.val (nI i)), some (.own (.lst (((List.range j).map (pw t i)).map nI))), some (.val (nI (pw t i j)))]) (ord t i - 1) ⟨1, by omega, by omega, by rw [pw_one G hi]; rfl⟩ ?_ ?_
    · rintro ρ ⟨j, hj, e, rfl⟩ R'
      have e : j = ord t i := e
      subst e
      walk_at "dw"
      refine ifF (by rw [os.2.2.1]; rfl) ?_
      refine ⟨by omega, ?_⟩
      have e7 : ((List.range (i + 1)).map (line t)).map tupN = ((List.range i).map (line t)).map tupN ++ [tupN ((List.range (ord t i)).map (pw t i))] := by
        rw [List.range_succ, List.map_append, List.map_append]; rfl
      rw [← e7]
      exact hR _ ⟨_, _, _, rfl⟩
    · rintro k ρ ⟨j, hj, e, rfl⟩ R' hR'
      walk_at "dw"
      have h1 := os.2.2.2 j hj (by omega)
      have h2 := G.pw_lt hi j
      refine ifT (by simp; omega) ⟨by omega, ?_⟩
      rw [it_tab G.toIsTab h2, to_ok, it_row (by rw [G.rowlen h2]; exact hi), to_ok]
      refine hR' _ ⟨j + 1, by omega, by omega, ?_⟩
      rw [range_pw]; rfl
  · rintro ρ ⟨a, b, c, rfl⟩
    rw [len_map, List.length_range]
    walk_at "dw"
    exact q
/-! ### is_even -/
def transp (t : Tb) (n : Nat) : Tb := (List.range n).map fun j => t.map fun r => r.getD j 0
theorem S_is_even {t : Tb} {n : Nat} {bs : List Nat} {Q : D → Prop} {E : EX → Prop} (G : Grp t n) (hn : n ≤ 1000) (q : Q (.bl (decide (t = transp t n)))) : P_is_even [grpD t n bs] Q E := by
  unfold P_is_even T_is_even
  walk_at "dw"
  have e0 : tabD t = .tup ((t.map fun r => r.map nI).map .tup) := by unfold tabD; rw [List.map_map]; rfl
  refine ⟨t.map fun r => r.map nI, n, e0, ?_, by rw [List.length_map, G.len]; omega, ?_, G.pos, hn, ?_⟩
  · intro h
    have := congrArg List.length h
    rw [List.length_map, G.len] at this
    have := G.pos
    simp at *; omega
  · intro r hr
    obtain ⟨s, hs, rfl⟩ := List.mem_map.mp hr
    rw [List.length_map]; exact (G.row s hs).1
  · have e1 : colsD (t.map fun r => r.map nI) n = (transp t n).map tupN := by
      unfold colsD transp
      rw [List.map_map]
      refine List.map_congr_left fun j hj => ?_
      show D.tup _ = D.tup _
      rw [List.map_map, List.map_map]
      congr 1
      refine List.map_congr_left fun r hr => ?_
      have hj := List.mem_range.mp hj
      have hl := (G.row r hr).1
      show (r.map nI).getD j .non = nI (r.getD j 0)
      rw [List.getD_eq_getElem?_getD, List.getD_eq_getElem?_getD, List.getElem?_map, List.getElem?_eq_getElem (by omega)]; rfl
    rw [e1]
    refine compLen (by unfold transp; simp; omega) (compE (transp t n) tupN id tupN (fun r _ => ⟨_, rfl, fun R hR => hR⟩) ?_)
    rw [List.map_id]
    show okd (tabD (transp t n)) = true ∧ Q (.bl (eqv (tabD t) (tabD (transp t n))))
    rw [okd_tabD, eqv_tabD]
    exact ⟨rfl, q⟩
/-! ### order_counts -/
theorem S_order_counts {t : Tb} {n : Nat} {bs : List Nat} {Q : D → Prop} {E : EX → Prop} (G : Grp t n) (hn : n ≤ 1000) (q : Q (.lst ((sset (n + 1) (ords t n)).map fun s => .tup [nI s, nI ((ords t n).count s)]))) : P_order_counts [grpD t n bs] Q E := by
  unfold P_order_counts T_order_counts
  walk_at "dw"
  refine S_orders_of G hn ?_
  show forK _ _ _ ((ords t n).map nI) _
  have ol : (ords t n).length = n := by unfold ords; simp
  refine forI _ (fun i ρ => ∃ y, ρ = [some (.val (grpD t n bs)), some (.own (.dct ((firsts ((ords t n).take i)).map nI) ((firsts ((ords t n).take i)).map fun s => nI (((ords t n).take i).count s)))), y]) ⟨none, rfl⟩ ?_ ?_
  · rintro i d ρ hd ⟨y, rfl⟩
    obtain ⟨m, hm, rfl⟩ := map_get hd
    refine ⟨_, rfl, fun R hR => ?_⟩
    have hl := getElem?_lt hm
    have fs := firsts_spec ((ords t n).take i)
    have ft : (ords t n).take (i + 1) = (ords t n).take i ++ [m] := by rw [List.take_add_one, hm]; rfl
    have key : kyD (nI m) = some (.inl (m : Int)) := rfl
    have e5 : ∀ s, ((ords t n).take (i + 1)).count s = ((ords t n).take i).count s + if m = s then 1 else 0 := fun s => by
      rw [ft, List.count_append, List.count_singleton]
      by_cases z : m = s <;> simp [z]
    have hlen : (firsts ((ords t n).take i)).length < 16777216 := by
      have := firsts_len ((ords t n).take i)
      have := List.length_take_le i (ords t n)
      omega
    by_cases z : m ∈ firsts ((ords t n).take i)
    · walk_at "dw"
      simp only [key, look_nat, hasK_nat, putX_nat, z, decide_true, if_true, Option.getD_some]
      walk_at "dw"
      refine ⟨hlen, hR _ ⟨some (.val (nI m)), ?_⟩⟩
      rw [show firsts ((ords t n).take (i + 1)) = firsts ((ords t n).take i) by rw [ft, firsts_snoc, if_pos z]]
      have : ((firsts ((ords t n).take i)).map fun s => if s = m then D.int ((((ords t n).take i).count m : Nat) + 1) else nI (((ords t n).take i).count s)) = (firsts ((ords t n).take i)).map fun s => nI (((ords t n).take (i + 1)).count s) := by
        refine List.map_congr_left fun s _ => ?_
        rw [e5 s]
        by_cases q : s = m
        · subst q; simp
        · simp [q, Ne.symm q]
      rw [this]
    · walk_at "dw"
      simp only [key, look_nat, hasK_nat, putX_nat, z, decide_false, if_false, Option.getD_none, Bool.false_eq_true]
      walk_at "dw"
      refine ⟨hlen, hR _ ⟨some (.val (nI m)), ?_⟩⟩
      rw [show firsts ((ords t n).take (i + 1)) = firsts ((ords t n).take i) ++ [m] by rw [ft, firsts_snoc, if_neg z]]
      rw [List.map_append, List.map_append]
      have z2 : ((ords t n).take i).count m = 0 := List.count_eq_zero.mpr fun h => z ((fs.2 m).mpr h)
      have : ((firsts ((ords t n).take i)).map fun s => nI (((ords t n).take i).count s)) = (firsts ((ords t n).take i)).map fun s => nI (((ords t n).take (i + 1)).count s) := by
        refine List.map_congr_left fun s hs => ?_
        have q : m ≠ s := fun e => z (e ▸ hs)
        rw [e5 s, if_neg q, Nat.add_zero]
      rw [this]
      have e6 : ((ords t n).take (i + 1)).count m = 1 := by rw [e5 m, z2, if_pos rfl]
      simp only [List.map_cons, List.map_nil, e6]
      rfl
  · rintro ρ ⟨y, rfl⟩
    rw [len_map, List.take_length]
    walk_at "dw"
    have hb : ∀ x ∈ ords t n, x < n + 1 := fun x hx => by
      obtain ⟨y, hy, rfl⟩ := List.mem_map.mp hx
      have := (G.ord_spec (List.mem_range.mp hy)).2.1
      omega
    have ei : itemsL ((firsts (ords t n)).map nI) ((firsts (ords t n)).map fun s => nI ((ords t n).count s)) = ((firsts (ords t n)).map fun s => (s, (ords t n).count s)).map fun p => D.tup [nI p.1, nI p.2] := by
      unfold itemsL
      rw [List.zip_map', List.map_map, List.map_map]
      rfl
    rw [ei]
    refine ⟨?_, ?_, ?_⟩
    · rw [List.all_map, List.all_map]
      simp only [Function.comp_def, flatD, List.all_eq_true, Bool.and_eq_true]
      exact ⟨fun _ _ => trivial, fun _ _ => trivial⟩
    · refine ⟨?_, ?_, ?_⟩
      · exact okvL_of 59 _ _ fun p _ => rfl
      · intro d hd d' hd'
        rw [List.map_map] at hd hd'
        obtain ⟨p, _, rfl⟩ := List.mem_map.mp hd
        obtain ⟨p', _, rfl⟩ := List.mem_map.mp hd'
        rfl
      · refine .inl fun d hd => ?_
        rw [List.map_map] at hd
        obtain ⟨p, _, rfl⟩ := List.mem_map.mp hd
        exact ⟨_, _, rfl⟩
    · have es : (((firsts (ords t n)).map fun s => (s, (ords t n).count s)).map fun p => D.tup [nI p.1, nI p.2]).mergeSort ordD = (sset (n + 1) (ords t n)).map fun s => .tup [nI s, nI ((ords t n).count s)] := by
        have h1 := List.map_mergeSort (r := leP) (s := ordD) (f := fun p : Nat × Nat => D.tup [nI p.1, nI p.2]) (l := (firsts (ords t n)).map fun s => (s, (ords t n).count s)) (fun a _ b _ => by
          have h2 := congrFun (congrFun (PySem.W.dataLe_ii (β := Nat × Nat) (fun p => (p.1 : Int)) (fun p => (p.2 : Int))) a) b
          have h3 : ordD (.tup [nI a.1, nI a.2]) (.tup [nI b.1, nI b.2]) = PySem.W.dataLe false (fun p : Nat × Nat => .tuple [.int (p.1 : Int), .int (p.2 : Int)]) a b := rfl
          rw [h3, h2]
          unfold leP
          refine decide_eq_decide.mpr ?_
          omega)
        rw [← h1, sort_counts hb fun s => (ords t n).count s, List.map_map]
        rfl
      rw [es]; exact q
end KK
set_option Elab.async false
set_option linter.all false
set_option maxRecDepth 100000
namespace KK
open PySem PySem.Spec PyProof.Rows L2 PL GT
local macro_rules | `(tactic| walk_at "dw") => `(tactic| try simp only [dSeq, dPar, dVar, dVarB, dC, cK, dRet, dRetN, dDrop, dNext, dNever, dIf, dTest, bYes, bNot, bAnd, bOr, dAnd, dOr, dNot, dIfE, dChain, dBin, dUn, dArgs, dCall, dFun, dTup, dLst, dAsg, asg, asgs, Option.bind, dOwn, dApp, dExt, dSetIx, dAug, dFr, dOwnV, dAppPop, dMth, isSeq_lst, isSeq_tup, isSeq_tupN, dFor, iSeq_eq, seqK_lst, seqK_tup, seqK_tupN, seqK_tabD, seqD_lst, seqD_tup, seqD_tupN, seqD_tabD, iEnumD, iZip2, iZip3,  iRange1, iRange2, dRgL, dRgT, gR1, gR2, dComp, dZipStar, dRng_nat, rgD_lst, in_tupN, in_lstN, notIn_tupN, count_lstN, fold_tupN, dPut, dGet1, dGet2, dSortItems, wipeE, dFld_eq, fldK_table, fldK_many, fldK_backs, to_ok, to_cond,
  addD, subD, modD, fdivD, mulD, powD, negD, iaddD, ltD, leD, gtD, geD, eqD, neD, PL.intD, absD, sumD, all_lstB, any_lstB, all_true, len_lst, len_tup, len_tupN, len_tabD, List.length_map, List.length_range, list_lst, list_tup, list_tupN, tuple_lst, tuple_tup, tuple_tupN, addDO, mulDO, dOptI, dSl, dSlO, slD, isi_tup_tuple, isi_int_int, isi_int_bool, isi_lst_list, okd_int, okd_bl, okd_non, okd_tupN, okd_lstN, okd_tabD, eqv_int, eqv_tupN, eqv_lstN, eqv_tabD, Bool.and_self, true_and, and_true, Bool.true_and, Bool.and_true, Bool.and_false, Bool.not_true, Bool.not_false, Bool.false_eq_true, if_true, if_false, ite_true, ite_false, reduceIte, Bool.true_eq_false,
  List.map, List.length, List.append, List.replicate, List.cons_append, List.nil_append, Nat.sub_self, List.set, List.getElem?_cons_zero, List.getElem?_cons_succ, spBody, spBodyI, startE, startI, Nat.add_sub_cancel, Nat.reduceAdd, Nat.reduceSub, List.replicate_succ, List.replicate_zero, List.set_cons_zero, List.set_cons_succ])
/-! ### a group is made -/
theorem _root_.GT.Grp.rows {t : Tb} {n a b : Nat} (G : Grp t n) (ha : a < n) (hb : b < n) : ((t.getD b []).map fun c => (t.getD a []).getD c 0) = t.getD (ent t a b) [] := by
  have h3 := G.toIsTab.lt ha hb
  refine List.ext_getElem? fun c => ?_
  rw [List.getElem?_map]
  by_cases hc : c < n
  · have e := G.assoc a b c ha hb hc
    rw [List.getElem?_eq_getElem (by rw [G.rowlen hb]; exact hc), List.getElem?_eq_getElem (by rw [G.rowlen h3]; exact hc)]
    unfold ent at e h3 ⊢
    rw [List.getD_eq_getElem?_getD, List.getElem?_eq_getElem (by rw [G.rowlen h3]; exact hc), List.getD_eq_getElem?_getD (l := t.getD b []), List.getElem?_eq_getElem (by rw [G.rowlen hb]; exact hc)] at e
    simp only [Option.map_some, Option.some.injEq, Option.getD_some] at e ⊢
    exact e.symm
  · rw [List.getElem?_eq_none (by rw [G.rowlen hb]; omega), List.getElem?_eq_none (by rw [G.rowlen h3]; omega)]; rfl
theorem tab_get {t : Tb} {n i : Nat} {r : List Nat} (T : IsTab t n) (h : t[i]? = some r) : i < n ∧ t.getD i [] = r ∧ r.length = n ∧ ∀ x ∈ r, x < n := by
  have hi := getElem?_lt h
  have := T.row r (List.mem_of_getElem? h)
  exact ⟨by rw [← T.len]; exact hi, getD_of h, this.1, this.2⟩
theorem S_goes_together {t : Tb} {n : Nat} {Q : D → Prop} {E : EX → Prop} (G : Grp t n) (hn : n ≤ 1000) (q : Q (.bl true)) : P_goes_together [tabD t] Q E := by
  unfold P_goes_together T_goes_together
  walk_at "dw"
  show forK _ _ _ (t.map tupN) _
  refine forI _ (fun i ρ => ∃ a b c d, ρ = [some (.val (tabD t)), a, b, c, d]) ⟨_, _, _, _, rfl⟩ ?_ ?_
  · rintro i d ρ hd ⟨a, b, c, e, rfl⟩
    obtain ⟨r, hr, rfl⟩ := map_get hd
    obtain ⟨hi, er, rl, rx⟩ := tab_get G.toIsTab hr
    refine ⟨_, rfl, fun R hR => ?_⟩
    walk_at "dw"
    show forK _ _ _ (enumL (r.map nI)) _
    refine forI _ (fun i ρ => ∃ b c d, ρ = [some (.val (tabD t)), some (.val (tupN r)), b, c, d]) ⟨_, _, _, rfl⟩ ?_ ?_
    · rintro j d ρ hd ⟨b', c', d', rfl⟩
      obtain ⟨one, h1, rfl⟩ := enum_get hd
      have hj : j < n := by rw [← rl]; exact getElem?_lt h1
      have ho : one < n := rx one (List.mem_of_getElem? h1)
      refine ⟨_, rfl, fun R' hR' => ?_⟩
      walk_at "dw"
      rw [it_tab G.toIsTab hj, to_ok]
      have eo : one = ent t i j := by unfold ent; rw [er, getD_of h1]
      refine compLen (by rw [List.length_map, G.rowlen hj]; omega) (compE (t.getD j []) nI (fun c => r.getD c 0) nI (fun x hx => ⟨_, rfl, fun R hR => ?_⟩) ?_)
      · have hx := (G.row _ (getD_mem (by rw [G.len]; exact hj))).2 x hx

        walk_at "dw"
        rw [it_row (by rw [rl]; exact hx), to_ok]; exact hR
      · walk_at "dw"
        rw [it_tab G.toIsTab ho, to_ok]
        rw [← er, G.rows hi hj, ← eo]
        walk_at "dw"
        refine ifF (by simp) ?_
        rw [er]
        exact hR' _ ⟨_, _, _, rfl⟩
    · rintro ρ ⟨b', c', d', rfl⟩
      exact hR _ ⟨_, _, _, _, rfl⟩
  · rintro ρ ⟨a, b, c, e, rfl⟩
    walk_at "dw"
    exact q
def backsOf (t : Tb) : List Nat := t.map fun r => r.idxOf 0
theorem S_Group {t : Tb} {n : Nat} {Q : D → Prop} {E : EX → Prop} (G : Grp t n) (hn : n ≤ 32) (q : Q (grpD t n (backsOf t))) : P_Group [tabD t] Q E := by
  unfold P_Group T_Group___init__
  walk_at "dw"
  show P_is_tuple [.tup (t.map tupN), _, _] _ _
  refine S_is_tuple ?_
  have hl : (t.map tupN).length = n := by rw [List.length_map, G.len]
  have pos := G.pos
  rw [hl]
  walk_at "dw"
  rw [decide_eq_true (show (1 : Int) ≤ n ∧ (n : Int) ≤ 32 by omega)]
  walk_at "dw"
  rw [G.len]
  refine forI _ (fun i ρ => ∃ a b c, ρ = [some (.own (.obj "Group" [] [])), some (.val (tabD t)), some (.val (nI n)), a, b, c]) ⟨_, _, _, rfl⟩ ?_ ?_
  · rintro i d ρ hd ⟨a, b, c, rfl⟩
    obtain ⟨r, hr, rfl⟩ := enum_get hd
    obtain ⟨hi, er, rl, rx⟩ := tab_get G.toIsTab hr
    refine ⟨_, rfl, fun R hR => ?_⟩
    walk_at "dw"
    show P_is_tuple [.tup (r.map nI), _, _] _ _
    refine S_is_tuple ?_
    rw [len_map, rl]
    walk_at "dw"
    rw [decide_eq_true (show (n : Int) ≤ n ∧ (n : Int) ≤ n by omega)]
    walk_at "dw"
    refine ⟨by omega, compE r nI (fun x => true) D.bl (fun x hx => ⟨_, rfl, fun R hR => ?_⟩) ?_⟩
    · walk_at "dw"
      refine S_is_within ?_
      have := rx x hx
      rw [decide_eq_true (by omega)]
      exact hR
    · walk_at "dw"
      exact hR _ ⟨_, _, _, rfl⟩
  · rintro ρ ⟨a, b, c, rfl⟩
    walk_at "dw"
    have t0 : itD (tabD t) (.int 0) = .ok (tupN (t.getD 0 [])) := it_tab G.toIsTab pos
    have r0 : t.getD 0 [] = List.range n := by
      refine List.ext_getElem? fun c => ?_
      by_cases hc : c < n
      · have := G.oneL c hc
        unfold ent at this
        rw [List.getD_eq_getElem?_getD, List.getElem?_eq_getElem (by rw [G.rowlen pos]; exact hc)] at this
        rw [List.getElem?_eq_getElem (by rw [G.rowlen pos]; exact hc), List.getElem?_range hc]
        exact congrArg some this
      · rw [List.getElem?_eq_none (by rw [G.rowlen pos]; omega), List.getElem?_eq_none (by simp; omega)]
    have ctab : t.length ≤ 1000000 := by rw [G.len]; omega
    rw [t0]
    walk_at "dw"
    rw [r0]
    refine ⟨rgOk (by omega), ifF (by simp) (compLen ctab (compE t tupN (fun r => r.getD 0 0) nI (fun r hr => ⟨_, rfl, fun R hR => ?_⟩) ?_))⟩
    · walk_at "dw"
      have h0 : itD (tupN r) (.int 0) = .ok (nI (r.getD 0 0)) := it_row (by rw [(G.row r hr).1]; exact pos)
      rw [h0]; exact hR
    · walk_at "dw"
      have c0 : (t.map fun r => r.getD 0 0) = List.range n := by
        refine List.ext_getElem? fun a => ?_
        rw [List.getElem?_map]
        by_cases ha : a < n
        · have := G.oneR a ha
          unfold ent at this
          rw [List.getD_eq_getElem?_getD (l := t), List.getElem?_eq_getElem (by rw [G.len]; exact ha)] at this
          rw [List.getElem?_eq_getElem (by rw [G.len]; exact ha), List.getElem?_range ha]
          exact congrArg some this
        · rw [List.getElem?_eq_none (by rw [G.len]; omega), List.getElem?_eq_none (by simp; omega)]; rfl
      rw [c0]
      refine ⟨rgOk (by omega), ifF (by simp) (compLen ctab (compE t tupN (fun r => true) D.bl (fun r hr => ⟨_, rfl, fun R hR => ?_⟩) ?_))⟩
      · walk_at "dw"
        obtain ⟨a, ha⟩ := mem_get hr
        obtain ⟨hi, er, rl, rx⟩ := tab_get G.toIsTab ha
        obtain ⟨b', hb, e⟩ := G.back a hi
        have m0 : 0 ∈ r := by
          unfold ent at e
          rw [er] at e
          rw [← e]; exact getD_mem (by rw [rl]; exact hb)
        have h0 : (inD2 (.int 0) (tupN r)).to R = R (.bl (decide (0 ∈ r))) := in_tupN
        rw [h0, decide_eq_true m0]; exact hR
      · walk_at "dw"
        refine S_goes_together G (by omega) ?_
        walk_at "dw"
        unfold dSetF
        walk_at "dw"
        refine ⟨List.not_mem_nil, by decide, by decide +kernel, by decide, compLen ctab (compE t tupN (fun r => r.idxOf 0) nI (fun r hr => ⟨_, rfl, fun R hR => ?_⟩) ?_)⟩
        · obtain ⟨a, ha⟩ := mem_get hr
          obtain ⟨hi, er, rl, rx⟩ := tab_get G.toIsTab ha
          obtain ⟨b', hb, e⟩ := G.back a hi
          have m0 : 0 ∈ r := by
            unfold ent at e
            rw [er] at e
            rw [← e]; exact getD_mem (by rw [rl]; exact hb)
          walk_at "dw"
          have h0 : (indexD (tupN r) [.int 0]).to R = R (nI (r.idxOf 0)) := index_tupN m0
          rw [h0]; exact hR
        · walk_at "dw"
          exact ⟨by decide +kernel, by decide, q⟩
end KK
set_option Elab.async false
set_option linter.all false
set_option maxRecDepth 100000
namespace KK
open PySem PySem.Spec PyProof.Rows L2 PL GT
local macro_rules | `(tactic| walk_at "dw") => `(tactic| try simp only [dSeq, dPar, dVar, dVarB, dC, cK, dRet, dRetN, dDrop, dNext, dNever, dIf, dTest, bYes, bNot, bAnd, bOr, dAnd, dOr, dNot, dIfE, dChain, dBin, dUn, dArgs, dCall, dFun, dTup, dLst, dAsg, asg, asgs, Option.bind, dOwn, dApp, dExt, dSetIx, dAug, dFr, dOwnV, dAppPop, dMth, isSeq_lst, isSeq_tup, isSeq_tupN, dFor, iSeq_eq, seqK_lst, seqK_tup, seqK_tupN, seqK_tabD, seqD_lst, seqD_tup, seqD_tupN, seqD_tabD, iEnumD, iZip2, iZip3,  iRange1, iRange2, dRgL, dRgT, gR1, gR2, dComp, dZipStar, dRng_nat, rgD_lst, in_tupN, in_lstN, notIn_tupN, count_lstN, fold_tupN, dPut, dGet1, dGet2, dSortItems, wipeE, dFld_eq, fldK_table, fldK_many, fldK_backs, to_ok, to_cond,
  addD, subD, modD, fdivD, mulD, powD, negD, iaddD, ltD, leD, gtD, geD, eqD, neD, PL.intD, absD, sumD, all_lstB, any_lstB, all_true, len_lst, len_tup, len_tupN, len_tabD, List.length_map, List.length_range, list_lst, list_tup, list_tupN, tuple_lst, tuple_tup, tuple_tupN, addDO, mulDO, dOptI, dSl, dSlO, slD, isi_tup_tuple, isi_int_int, isi_int_bool, isi_lst_list, okd_int, okd_bl, okd_non, okd_tupN, okd_lstN, okd_tabD, eqv_int, eqv_tupN, eqv_lstN, eqv_tabD, Bool.and_self, true_and, and_true, Bool.true_and, Bool.and_true, Bool.and_false, Bool.not_true, Bool.not_false, Bool.false_eq_true, if_true, if_false, ite_true, ite_false, reduceIte, Bool.true_eq_false,
  List.map, List.length, List.append, List.replicate, List.cons_append, List.nil_append, Nat.sub_self, List.set, List.getElem?_cons_zero, List.getElem?_cons_succ, spBody, spBodyI, startE, startI, Nat.add_sub_cancel, Nat.reduceAdd, Nat.reduceSub, List.replicate_succ, List.replicate_zero, List.set_cons_zero, List.set_cons_succ])
/-! ### the law's own defs (k00 .. k09): draws, names -/
theorem S__law_any {l : List D} {Q : D → Prop} {E : EX → Prop} (h0 : 0 < l.length) (h1 : l.length < 1000) (q : ∀ d ∈ l, Q d) : P__law_any [.hand, .lst l] Q E := by
  unfold P__law_any T__law_any
  walk_at "dw"
  refine ⟨_, rfl, by omega, by omega, fun k k0 k1 => ?_⟩
  obtain ⟨j, rfl⟩ : ∃ j : Nat, k = j := ⟨k.toNat, by omega⟩
  have hj : j < l.length := by omega
  rw [it_lst (List.getElem?_eq_getElem hj)]
  exact q _ (List.getElem_mem hj)
theorem S__law_row {t : Tb} {n : Nat} {x : Nat} {Q : D → Prop} {E : EX → Prop} (G : Grp t n) (hn : n ≤ 1000) (hi : x < n) (q : Q (tupN (line t x))) : P__law_row [tabD t, nI x] Q E := by
  unfold P__law_row T__law_row
  walk_at "dw"
  have os := G.ord_spec hi
  refine whileI (fun k ρ => ∃ j, 0 < j ∧ j + k = ord t x ∧ ρ = [some (.val (tabD t)), some (.val (nI x)), some (.own (.lst (((List.range j).map (pw t x)).map nI))), some (.val (nI (pw t x j)))]) (ord t x - 1) ⟨1, by omega, by omega, by rw [pw_one G hi]; rfl⟩ ?_ ?_
  · rintro ρ ⟨j, hj, e, rfl⟩ R'
    have e : j = ord t x := e
    subst e
    walk_at "dw"
    exact ifF (by rw [os.2.2.1]; rfl) q
  · rintro k ρ ⟨j, hj, e, rfl⟩ R' hR'
    walk_at "dw"
    have h1 := os.2.2.2 j hj (by omega)
    have h2 := G.pw_lt hi j
    refine ifT (by simp; omega) ⟨by omega, ?_⟩
    rw [it_tab G.toIsTab h2, to_ok, it_row (by rw [G.rowlen h2]; exact hi), to_ok]
    refine hR' _ ⟨j + 1, by omega, by omega, ?_⟩
    rw [range_pw]; rfl
theorem map_erase {α : Type} (f : α → D) : ∀ (l : List α) (i : Nat), (l.eraseIdx i).map f = (l.map f).eraseIdx i
  | [], _ => rfl
  | _ :: _, 0 => rfl
  | a :: l, i + 1 => by
    show f a :: (l.eraseIdx i).map f = f a :: (l.map f).eraseIdx i
    rw [map_erase f l i]
theorem S__law_names {n : Nat} {Q : D → Prop} {E : EX → Prop} (h0 : 0 < n) (hn : n ≤ 1000) (q : ∀ told, IsNames told n → Q (tupN told)) : P__law_names [.hand, nI n] Q E := by
  unfold P__law_names T__law_names
  walk_at "dw"
  refine ⟨by unfold RgOk; omega, ?_⟩
  refine whileI (fun k ρ => ∃ left found : List Nat, left.length = k ∧ (found ++ left).Perm (List.range n) ∧ found[0]? = some 0 ∧ ρ = [some (.val .hand), some (.val (nI n)), some (.own (.lst (left.map nI))), some (.own (.lst (found.map nI)))]) (n - 1) ?_ ?_ ?_
  · refine ⟨(List.range (n - 1)).map (· + 1), [0], by simp, ?_, rfl, ?_⟩
    · obtain ⟨m, rfl⟩ : ∃ m, n = m + 1 := ⟨n - 1, by omega⟩
      rw [List.range_succ_eq_map]
      exact .refl _
    · have : rgD 1 (n : Int) = ((List.range (n - 1)).map (· + 1)).map nI := by
        unfold rgD
        rw [List.map_map, show ((n : Int) - 1).toNat = n - 1 by omega]
        refine List.map_congr_left fun i _ => congrArg D.int ?_
        show (1 : Int) + (i : Int) = ((i + 1 : Nat) : Int)
        omega
      rw [this]; rfl
  · rintro ρ ⟨left, found, hl, hp, hf, rfl⟩ R
    obtain rfl : left = [] := List.length_eq_zero_iff.mp hl
    walk_at "dw"
    refine ifF (by simp) ?_
    exact q found ⟨by rwa [List.append_nil] at hp, hf⟩
  · rintro k ρ ⟨left, found, hl, hp, hf, rfl⟩ R hR
    walk_at "dw"
    refine ifT (by simp; omega) ⟨_, rfl, by omega, ?_, fun j j0 j1 => ?_⟩
    · have := hp.length_eq
      rw [List.length_append, List.length_range] at this
      omega
    · obtain ⟨i, rfl⟩ : ∃ i : Nat, j = i := ⟨j.toNat, by omega⟩
      have hi : i < left.length := by omega
      have e1 : ixN left.length (i : Int) = some i := by
        unfold ixN
        rw [if_pos (by omega), if_pos (by omega)]; rfl
      have hx : left[i]? = some left[i] := List.getElem?_eq_getElem hi
      walk_at "dw"
      rw [e1]
      have e2 : (left.map nI)[i]? = some (nI left[i]) := by rw [List.getElem?_map, hx]; rfl
      have hfl : found.length + left.length = n := by
        have := hp.length_eq
        rwa [List.length_append, List.length_range] at this
      walk_at "dw"
      rw [e2]
      refine ⟨by omega, by omega, by omega, hR _ ⟨left.eraseIdx i, found ++ [left[i]], ?_, ?_, ?_, ?_⟩⟩
      · rw [List.length_eraseIdx_of_lt hi]; omega
      · rw [List.append_assoc]
        exact (List.Perm.append_left found (erase_perm hx)).trans hp
      · rw [List.getElem?_append_left (getElem?_lt hf)]; exact hf
      · rw [List.map_append, map_erase]; rfl
theorem S__law_called {t : Tb} {n : Nat} {told : List Nat} {Q : D → Prop} {E : EX → Prop} (T : IsTab t n) (hn : n ≤ 1000) (N : IsNames told n) (q : Q (tabD (called t told))) : P__law_called [tabD t, tupN told] Q E := by
  unfold P__law_called T__law_called
  walk_at "dw"
  have hl := N.len
  refine ⟨by omega, ?_⟩
  have pl : ∀ i, i ≤ n → ∃ ps : List Nat, ps = (List.range n).map fun v => if told.idxOf v < i then told.idxOf v else 0 := fun i _ => ⟨_, rfl⟩
  have e0 : (List.replicate ((told.length : Int)).toNat [D.int 0]).flatten = ((List.range n).map fun v => if told.idxOf v < 0 then told.idxOf v else 0).map nI := by
    rw [Int.toNat_natCast, hl, List.map_map, List.flatten_replicate_singleton]
    refine (List.eq_replicate_iff.mpr ⟨by simp, fun b hb => ?_⟩).symm
    obtain ⟨v, _, rfl⟩ := List.mem_map.mp hb
    show nI (if _ then _ else _) = _
    rw [if_neg (Nat.not_lt_zero _)]; rfl
  rw [e0]
  refine forI _ (fun i ρ => ∃ a b c d, ρ = [some (.val (tabD t)), some (.val (tupN told)), some (.own (.lst (((List.range n).map fun v => if told.idxOf v < i then told.idxOf v else 0).map nI))), a, b, c, d]) ⟨_, _, _, _, rfl⟩ ?_ ?_
  · rintro i d ρ hd ⟨a, b, c, e, rfl⟩
    obtain ⟨one, h1, rfl⟩ := enum_get hd
    refine ⟨_, rfl, fun R hR => ?_⟩
    walk_at "dw"
    have hi : i < n := by rw [← hl]; exact getElem?_lt h1
    have ho : one < n := (N.mem one).mp (List.mem_of_getElem? h1)
    have e1 : ixN n (one : Int) = some one := by
      unfold ixN
      rw [if_pos (by omega), if_pos (by omega)]; rfl
    rw [e1]
    walk_at "dw"
    have hio : told.idxOf one = i := by
      have := N.gf hi
      rwa [getD_of h1] at this
    have e2 : (((List.range n).map fun v => if told.idxOf v < i then told.idxOf v else 0).map nI).set one (nI i) = ((List.range n).map fun v => if told.idxOf v < i + 1 then told.idxOf v else 0).map nI := by
      refine List.ext_getElem? fun j => ?_
      rw [List.getElem?_set]
      simp only [List.length_map, List.length_range]
      by_cases z : one = j
      · subst z
        rw [if_pos rfl, if_pos ho, List.getElem?_map, List.getElem?_map, List.getElem?_range ho]
        simp [hio]
      · rw [if_neg z, List.getElem?_map, List.getElem?_map, List.getElem?_map, List.getElem?_map]
        by_cases hj : j < n
        · rw [List.getElem?_range hj]
          have : told.idxOf j ≠ i := fun e => z (by
            have h2 := N.fg hj
            rw [e] at h2
            have h3 := getD_of (d := 0) h1
            rw [h3] at h2; exact h2)
          have h5 : (told.idxOf j < i) ↔ (told.idxOf j < i + 1) := by omega
          simp [h5]
        · rw [List.getElem?_eq_none (by simp; omega)]; rfl
    rw [e2]
    exact hR _ ⟨_, _, _, _, rfl⟩
  · rintro ρ ⟨a, b, c, e, rfl⟩
    simp only [enum_len, List.length_map]
    walk_at "dw"
    have e3 : ∀ v, v < n → ((List.range n).map fun v => if told.idxOf v < told.length then told.idxOf v else 0).getD v 0 = told.idxOf v := fun v hv => by
      rw [getD_range hv, if_pos (by rw [hl]; exact N.gl hv)]
    refine ⟨by omega, compE told nI (fun x => told.map fun y => told.idxOf (ent t x y)) tupN (fun x hx => ⟨_, rfl, fun R hR => ?_⟩) ?_⟩
    · have hx := (N.mem x).mp hx
      walk_at "dw"
      refine ⟨by omega, compE told nI (fun y => told.idxOf (ent t x y)) nI (fun y hy => ⟨_, rfl, fun R' hR' => ?_⟩) ?_⟩
      · have hy := (N.mem y).mp hy
        walk_at "dw"
        rw [it_tab T hx, to_ok, it_row (by rw [T.rowlen hx]; exact hy), to_ok, it_lst (d := nI (told.idxOf (ent t x y))) ?_]
        · exact hR'
        · have h4 := T.lt hx hy
          show (((List.range n).map fun v => if told.idxOf v < told.length then told.idxOf v else 0).map nI)[ent t x y]? = _
          rw [List.getElem?_map, List.getElem?_map, List.getElem?_range h4]
          show some (nI (if _ then _ else _)) = _
          rw [if_pos (by rw [hl]; exact N.gl h4)]
      · walk_at "dw"
        exact hR
    · walk_at "dw"
      exact q
theorem S__law_is_bb {a b : Bool} {Q : D → Prop} {E : EX → Prop} (q : Q (.bl true)) : P__law_is [.lst [.bl a, .bl b], .lst [.bl a, .bl b]] Q E := by
  unfold P__law_is T__law_is
  walk_at "dw"
  cases a <;> cases b <;> exact ⟨by decide +kernel, by decide +kernel, by decide +kernel, q⟩
end KK
set_option Elab.async false
set_option linter.all false
set_option maxRecDepth 100000
namespace KK
open PySem PySem.Spec PyProof.Rows L2 PL GT
local macro_rules | `(tactic| walk_at "dw") => `(tactic| try simp only [dSeq, dPar, dVar, dVarB, dC, cK, dRet, dRetN, dDrop, dNext, dNever, dIf, dTest, bYes, bNot, bAnd, bOr, dAnd, dOr, dNot, dIfE, dChain, dBin, dUn, dArgs, dCall, dFun, dTup, dLst, dAsg, asg, asgs, Option.bind, dOwn, dApp, dExt, dSetIx, dAug, dFr, dOwnV, dAppPop, dMth, isSeq_lst, isSeq_tup, isSeq_tupN, dFor, iSeq_eq, seqK_lst, seqK_tup, seqK_tupN, seqK_tabD, seqD_lst, seqD_tup, seqD_tupN, seqD_tabD, iEnumD, iZip2, iZip3,  iRange1, iRange2, dRgL, dRgT, gR1, gR2, dComp, dZipStar, dRng_nat, rgD_lst, in_tupN, in_lstN, notIn_tupN, count_lstN, fold_tupN, dPut, dGet1, dGet2, dSortItems, wipeE, dFld_eq, fldK_table, fldK_many, fldK_backs, to_ok, to_cond,
  addD, subD, modD, fdivD, mulD, powD, negD, iaddD, ltD, leD, gtD, geD, eqD, neD, PL.intD, absD, sumD, all_lstB, any_lstB, all_true, len_lst, len_tup, len_tupN, len_tabD, List.length_map, List.length_range, list_lst, list_tup, list_tupN, tuple_lst, tuple_tup, tuple_tupN, addDO, mulDO, dOptI, dSl, dSlO, slD, isi_tup_tuple, isi_int_int, isi_int_bool, isi_lst_list, okd_int, okd_bl, okd_non, okd_tupN, okd_lstN, okd_tabD, eqv_int, eqv_tupN, eqv_lstN, eqv_tabD, Bool.and_self, true_and, and_true, Bool.true_and, Bool.and_true, Bool.and_false, Bool.not_true, Bool.not_false, Bool.false_eq_true, if_true, if_false, ite_true, ite_false, reduceIte, Bool.true_eq_false,
  List.map, List.length, List.append, List.replicate, List.cons_append, List.nil_append, Nat.sub_self, List.set, List.getElem?_cons_zero, List.getElem?_cons_succ, spBody, spBodyI, startE, startI, Nat.add_sub_cancel, Nat.reduceAdd, Nat.reduceSub, List.replicate_succ, List.replicate_zero, List.set_cons_zero, List.set_cons_succ])
/-! ### the law's own defs (k00 .. k09): rules, members, tables -/
theorem okS_rings : okd (.str "rings") = true := by decide +kernel
theorem okS_turns : okd (.str "turns") = true := by decide +kernel
theorem okS_quarters : okd (.str "quarters") = true := by decide +kernel
theorem okS_led : okd (.str "led") = true := by decide +kernel
theorem okS_orders : okd (.str "orders") = true := by decide +kernel
theorem okS_three : okd (.str "three") = true := by decide +kernel
theorem okS_table : okd (.str "table") = true := by decide +kernel
theorem eqS_rings_rings : eqv (.str "rings") (.str "rings") = true := by decide +kernel
theorem eqS_rings_turns : eqv (.str "rings") (.str "turns") = false := by decide +kernel
theorem eqS_rings_quarters : eqv (.str "rings") (.str "quarters") = false := by decide +kernel
theorem eqS_rings_led : eqv (.str "rings") (.str "led") = false := by decide +kernel
theorem eqS_rings_orders : eqv (.str "rings") (.str "orders") = false := by decide +kernel
theorem eqS_rings_three : eqv (.str "rings") (.str "three") = false := by decide +kernel
theorem eqS_rings_table : eqv (.str "rings") (.str "table") = false := by decide +kernel
theorem eqS_turns_rings : eqv (.str "turns") (.str "rings") = false := by decide +kernel
theorem eqS_turns_turns : eqv (.str "turns") (.str "turns") = true := by decide +kernel
theorem eqS_turns_quarters : eqv (.str "turns") (.str "quarters") = false := by decide +kernel
theorem eqS_turns_led : eqv (.str "turns") (.str "led") = false := by decide +kernel
theorem eqS_turns_orders : eqv (.str "turns") (.str "orders") = false := by decide +kernel
theorem eqS_turns_three : eqv (.str "turns") (.str "three") = false := by decide +kernel
theorem eqS_turns_table : eqv (.str "turns") (.str "table") = false := by decide +kernel
theorem eqS_quarters_rings : eqv (.str "quarters") (.str "rings") = false := by decide +kernel
theorem eqS_quarters_turns : eqv (.str "quarters") (.str "turns") = false := by decide +kernel
theorem eqS_quarters_quarters : eqv (.str "quarters") (.str "quarters") = true := by decide +kernel
theorem eqS_quarters_led : eqv (.str "quarters") (.str "led") = false := by decide +kernel
theorem eqS_quarters_orders : eqv (.str "quarters") (.str "orders") = false := by decide +kernel
theorem eqS_quarters_three : eqv (.str "quarters") (.str "three") = false := by decide +kernel
theorem eqS_quarters_table : eqv (.str "quarters") (.str "table") = false := by decide +kernel
theorem eqS_led_rings : eqv (.str "led") (.str "rings") = false := by decide +kernel
theorem eqS_led_turns : eqv (.str "led") (.str "turns") = false := by decide +kernel
theorem eqS_led_quarters : eqv (.str "led") (.str "quarters") = false := by decide +kernel
theorem eqS_led_led : eqv (.str "led") (.str "led") = true := by decide +kernel
theorem eqS_led_orders : eqv (.str "led") (.str "orders") = false := by decide +kernel
theorem eqS_led_three : eqv (.str "led") (.str "three") = false := by decide +kernel
theorem eqS_led_table : eqv (.str "led") (.str "table") = false := by decide +kernel
theorem eqS_orders_rings : eqv (.str "orders") (.str "rings") = false := by decide +kernel
theorem eqS_orders_turns : eqv (.str "orders") (.str "turns") = false := by decide +kernel
theorem eqS_orders_quarters : eqv (.str "orders") (.str "quarters") = false := by decide +kernel
theorem eqS_orders_led : eqv (.str "orders") (.str "led") = false := by decide +kernel
theorem eqS_orders_orders : eqv (.str "orders") (.str "orders") = true := by decide +kernel
theorem eqS_orders_three : eqv (.str "orders") (.str "three") = false := by decide +kernel
theorem eqS_orders_table : eqv (.str "orders") (.str "table") = false := by decide +kernel
theorem eqS_three_rings : eqv (.str "three") (.str "rings") = false := by decide +kernel
theorem eqS_three_turns : eqv (.str "three") (.str "turns") = false := by decide +kernel
theorem eqS_three_quarters : eqv (.str "three") (.str "quarters") = false := by decide +kernel
theorem eqS_three_led : eqv (.str "three") (.str "led") = false := by decide +kernel
theorem eqS_three_orders : eqv (.str "three") (.str "orders") = false := by decide +kernel
theorem eqS_three_three : eqv (.str "three") (.str "three") = true := by decide +kernel
theorem eqS_three_table : eqv (.str "three") (.str "table") = false := by decide +kernel
theorem eqS_table_rings : eqv (.str "table") (.str "rings") = false := by decide +kernel
theorem eqS_table_turns : eqv (.str "table") (.str "turns") = false := by decide +kernel
theorem eqS_table_quarters : eqv (.str "table") (.str "quarters") = false := by decide +kernel
theorem eqS_table_led : eqv (.str "table") (.str "led") = false := by decide +kernel
theorem eqS_table_orders : eqv (.str "table") (.str "orders") = false := by decide +kernel
theorem eqS_table_three : eqv (.str "table") (.str "three") = false := by decide +kernel
theorem eqS_table_table : eqv (.str "table") (.str "table") = true := by decide +kernel
local macro_rules | `(tactic| walk_at "ds") => `(tactic| try simp only [okS_rings, okS_turns, okS_quarters, okS_led, okS_orders, okS_three, okS_table, eqS_rings_rings, eqS_rings_turns, eqS_rings_quarters, eqS_rings_led, eqS_rings_orders, eqS_rings_three, eqS_rings_table, eqS_turns_rings, eqS_turns_turns, eqS_turns_quarters, eqS_turns_led, eqS_turns_orders, eqS_turns_three, eqS_turns_table, eqS_quarters_rings, eqS_quarters_turns, eqS_quarters_quarters, eqS_quarters_led, eqS_quarters_orders, eqS_quarters_three, eqS_quarters_table, eqS_led_rings, eqS_led_turns, eqS_led_quarters, eqS_led_led, eqS_led_orders, eqS_led_three, eqS_led_table, eqS_orders_rings, eqS_orders_turns, eqS_orders_quarters, eqS_orders_led, eqS_orders_orders, eqS_orders_three, eqS_orders_table, eqS_three_rings, eqS_three_turns, eqS_three_quarters, eqS_three_led, eqS_three_orders, eqS_three_three, eqS_three_table, eqS_table_rings, eqS_table_turns, eqS_table_quarters, eqS_table_led, eqS_table_orders, eqS_table_three, eqS_table_table, Bool.and_self, true_and, Bool.not_true, Bool.not_false, if_true, if_false, Bool.false_eq_true, reduceIte])
def ruleD : Rule → D
  | .rings s => .tup [.str "rings", tupN s]
  | .turns n => .tup [.str "turns", nI n]
  | .quarters n => .tup [.str "quarters", nI n]
  | .led n k r => .tup [.str "led", nI n, nI k, nI r]
  | .orders e => .tup [.str "orders", nI e]
  | .three => .tup [.str "three"]
  | .table => .tup [.str "table"]
theorem it_0 {a : D} {l : List D} : itD (.tup (a :: l)) (.int 0) = .ok a := it_tup (i := 0) rfl
theorem it_1 {a b : D} {l : List D} : itD (.tup (a :: b :: l)) (.int 1) = .ok b := it_tup (i := 1) rfl
theorem it_2 {a b c : D} {l : List D} : itD (.tup (a :: b :: c :: l)) (.int 2) = .ok c := it_tup (i := 2) rfl
theorem it_3 {a b c d : D} {l : List D} : itD (.tup (a :: b :: c :: d :: l)) (.int 3) = .ok d := it_tup (i := 3) rfl
theorem itN_0 {a : Nat} {l : List Nat} : itD (tupN (a :: l)) (.int 0) = .ok (nI a) := it_tup (i := 0) rfl
theorem itN_1 {a b : Nat} {l : List Nat} : itD (tupN (a :: b :: l)) (.int 1) = .ok (nI b) := it_tup (i := 1) rfl
theorem itN_2 {a b c : Nat} {l : List Nat} : itD (tupN (a :: b :: c :: l)) (.int 2) = .ok (nI c) := it_tup (i := 2) rfl
theorem itN_3 {a b c d : Nat} {l : List Nat} : itD (tupN (a :: b :: c :: d :: l)) (.int 3) = .ok (nI d) := it_tup (i := 3) rfl
theorem int_i {i : Int} : PL.intD [.int i] = .ok (.int i) := rfl
local macro_rules | `(tactic| walk_at "di") => `(tactic| try simp only [it_0, it_1, it_2, it_3, itN_0, itN_1, itN_2, itN_3, int_i, ruleD, to_ok])
/-- a member of a group told by a rule -/
def encM : Rule → List Nat → D
  | .table, [a, b, c, d] => .tup [tupN [a, b], tupN [c, d]]
  | _, x => tupN x
/-- what numbers a member is -/
def shape : Rule → List Nat → Prop
  | .rings _, _ => True
  | .turns n, x => ∃ a b, x = [a, b] ∧ 0 < n
  | .quarters n, x => ∃ a b, x = [a, b] ∧ b ≤ 1 ∧ 0 < n
  | .led n k _, x => ∃ a b, x = [a, b] ∧ 0 < n ∧ 0 < k ∧ n ≤ 1000 ∧ a ≤ 1000
  | .orders _, x => x.length = 4 ∧ ∀ a ∈ x, a < 4
  | .three, x => ∃ a b c, x = [a, b, c] ∧ a < 3
  | .table, x => ∃ a b c d, x = [a, b, c, d] ∧ a < 3 ∧ b < 3 ∧ c < 3 ∧ d < 3
def rulePos : Rule → Prop
  | .rings s => (∀ x ∈ s, 0 < x) ∧ s.length ≤ 1000
  | _ => True
theorem less_int {n a c : Nat} (h : 0 < n) : ((a : Int) + (0 - (c : Int))) % (n : Int) = (lessN n a c : Nat) := by
  unfold lessN
  have h1 : c % n ≤ n := Nat.le_of_lt (Nat.mod_lt _ h)
  have h2 : ((a : Int) + (0 - (c : Int))) = ((a + (n - c % n) : Nat) : Int) + (n : Int) * (-1 - (c / n : Nat)) := by
    have := Nat.div_add_mod c n
    have h3 : (c : Int) = (n : Int) * (c / n : Nat) + (c % n : Nat) := by exact_mod_cast this.symm
    rw [h3]
    push_cast [h1]
    rw [Int.mul_sub]
    omega
  rw [h2, Int.add_mul_emod_self_left]
  norm_cast
theorem S__law_times_turns {n : Nat} {x y : List Nat} {Q : D → Prop} {E : EX → Prop} (hx : shape (.turns n) x) (hy : shape (.turns n) y) (q : Q (encM (.turns n) (tms (.turns n) x y))) : P__law_times [ruleD (.turns n), encM (.turns n) x, encM (.turns n) y] Q E := by
  obtain ⟨a, b, rfl, h0⟩ := hx
  obtain ⟨c, d, rfl, _⟩ := hy
  unfold P__law_times T__law_times
  simp only [ruleD, encM] at q ⊢
  walk_at "dw"
  walk_at "di"
  walk_at "dw"
  walk_at "ds"
  walk_at "di"
  walk_at "dw"
  have e2 : ((b : Int) + (d : Int)) % 2 = ((b + d) % 2 : Nat) := by omega
  rw [e2]
  by_cases hb : b = 0
  · subst hb
    refine ifT rfl ⟨by omega, by decide, ?_⟩
    have e1 : ((a : Int) + (c : Int)) % (n : Int) = ((a + c) % n : Nat) := by norm_cast
    rw [e1]
    simp only [tms, if_true] at q
    exact q
  · refine ifF (by simp; omega) ⟨by omega, by decide, ?_⟩
    rw [less_int h0]
    simp only [tms, hb, if_false] at q
    exact q
theorem S__law_times_quarters {n : Nat} {x y : List Nat} {Q : D → Prop} {E : EX → Prop} (hn : n ≤ 1000) (hx : shape (.quarters n) x) (hy : shape (.quarters n) y) (q : Q (encM (.quarters n) (tms (.quarters n) x y))) : P__law_times [ruleD (.quarters n), encM (.quarters n) x, encM (.quarters n) y] Q E := by
  obtain ⟨a, b, rfl, b1, h0⟩ := hx
  obtain ⟨c, d, rfl, d1, _⟩ := hy
  unfold P__law_times T__law_times
  simp only [ruleD, encM] at q ⊢
  walk_at "dw"
  walk_at "di"
  walk_at "dw"
  walk_at "ds"
  walk_at "di"
  walk_at "dw"
  have e2 : ((b : Int) + (d : Int)) % 2 = ((b + d) % 2 : Nat) := by omega
  have m2 : mulOk 2 (n : Int) := .inl (.inl (by decide))
  have en : (2 : Int) * (n : Int) = ((2 * n : Nat) : Int) := by omega
  have p0 : 0 < 2 * n := by omega
  rw [e2]
  simp only [tms] at q
  by_cases hb : b = 0
  · subst hb
    rw [if_neg (show ¬ (decide (((0 : Nat) : Int) + (d : Int) = 2) = true) by simp; omega), if_pos (show decide (((0 : Nat) : Int) = 0) = true from rfl)]
    refine ⟨m2, by omega, by decide, ?_⟩
    have e1 : ((a : Int) + (c : Int) + 0) % (2 * (n : Int)) = ((a + c) % (2 * n) : Nat) := by rw [Int.add_zero, en]; norm_cast
    rw [e1]
    simp only [if_true] at q
    exact q
  · have hb1 : b = 1 := by omega
    subst hb1
    by_cases hd : d = 0
    · subst hd
      rw [if_neg (show ¬ (decide (((1 : Nat) : Int) + ((0 : Nat) : Int) = 2) = true) by decide), if_neg (show ¬ (decide (((1 : Nat) : Int) = 0) = true) by decide)]
      refine ⟨m2, by omega, by decide, ?_⟩
      rw [Int.add_zero, en, less_int p0]
      simp only [if_true, if_false, Nat.one_ne_zero] at q
      exact q
    · have hd1 : d = 1 := by omega
      subst hd1
      rw [if_pos (show (decide (((1 : Nat) : Int) + ((1 : Nat) : Int) = 2) = true) by decide), if_neg (show ¬ (decide (((1 : Nat) : Int) = 0) = true) by decide)]
      refine ⟨m2, by omega, by decide, ?_⟩
      have e3 : ((a : Int) + (0 - (c : Int)) + (n : Int)) % (2 * (n : Int)) = ((lessN (2 * n) a c + n) % (2 * n) : Nat) := by
        rw [en, ← Int.emod_add_emod, less_int p0]; norm_cast
      rw [e3]
      simp only [if_false, Nat.one_ne_zero] at q
      exact q
theorem S__law_times_led {n k r : Nat} {x y : List Nat} {Q : D → Prop} {E : EX → Prop} (hr : r ≤ 1000) (hx : shape (.led n k r) x) (hy : shape (.led n k r) y) (q : Q (encM (.led n k r) (tms (.led n k r) x y))) : P__law_times [ruleD (.led n k r), encM (.led n k r) x, encM (.led n k r) y] Q E := by
  obtain ⟨a, b, rfl, h0, k0, n1, a1⟩ := hx
  obtain ⟨c, d, rfl, _, _, _, c1⟩ := hy
  unfold P__law_times T__law_times
  simp only [ruleD, encM] at q ⊢
  walk_at "dw"
  walk_at "di"
  walk_at "dw"
  walk_at "ds"
  walk_at "di"
  walk_at "dw"
  refine ⟨by omega, by omega, ?_⟩
  have gen : ∀ (k : Nat) (h : Nat), ledBy n r (k + 1) h = (ledBy n r k h) * r % n := by
    intro k
    induction k with
    | zero => intro h; rfl
    | succ k ih => intro h; show ledBy n r (k + 1) (h * r % n) = _; rw [ih]; rfl
  refine forI _ (fun i ρ => ∃ y, ρ = [some (.val (.tup [.str "led", nI n, nI k, nI r])), some (.val (tupN [a, b])), some (.val (tupN [c, d])), some (.val (.str "led")), none, none, none, none, some (.val (nI (ledBy n r i b))), y, none, none, none, none]) ⟨none, rfl⟩ ?_ ?_
  · rintro i z ρ hz ⟨y, rfl⟩
    refine ⟨_, rfl, fun R hR => ?_⟩
    walk_at "dw"
    walk_at "di"
    walk_at "dw"
    walk_at "di"
    walk_at "dw"
    refine ⟨.inl (.inr (by omega)), by omega, ?_⟩
    have e1 : (ledBy n r i b : Int) * (r : Int) % (n : Int) = (ledBy n r (i + 1) b : Nat) := by rw [gen]; norm_cast
    rw [e1]
    exact hR _ ⟨_, rfl⟩
  · rintro ρ ⟨y, rfl⟩
    simp only [List.length_map, List.length_range]
    walk_at "dw"
    walk_at "di"
    walk_at "dw"
    refine ⟨by omega, by omega, ?_⟩
    have e1 : ((a : Int) + (c : Int)) % (k : Int) = ((a + c) % k : Nat) := by norm_cast
    have e2 : ((ledBy n r c b : Int) + (d : Int)) % (n : Int) = ((ledBy n r c b + d) % n : Nat) := by norm_cast
    rw [e1, e2]
    simp only [tms] at q
    exact q
theorem S__law_times_orders {e : Nat} {x y : List Nat} {Q : D → Prop} {E : EX → Prop} (hx : shape (.orders e) x) (hy : shape (.orders e) y) (q : Q (encM (.orders e) (tms (.orders e) x y))) : P__law_times [ruleD (.orders e), encM (.orders e) x, encM (.orders e) y] Q E := by
  unfold P__law_times T__law_times
  simp only [ruleD, encM] at q ⊢
  walk_at "dw"
  walk_at "di"
  walk_at "dw"
  walk_at "ds"
  walk_at "di"
  walk_at "dw"
  refine compLen (by rw [hx.1]; omega) (compE x nI (fun one => y.getD one 0) nI (fun one ho => ⟨_, rfl, fun R hR => ?_⟩) ?_)
  · walk_at "dw"
    rw [it_row (by rw [hy.1]; exact hx.2 one ho), to_ok]; exact hR
  · walk_at "dw"
    exact q
theorem S__law_times_three {x y : List Nat} {Q : D → Prop} {E : EX → Prop} (hx : shape .three x) (hy : shape .three y) (q : Q (encM .three (tms .three x y))) : P__law_times [ruleD .three, encM .three x, encM .three y] Q E := by
  obtain ⟨a, b, c, rfl, a3⟩ := hx
  obtain ⟨d, e, f, rfl, _⟩ := hy
  unfold P__law_times T__law_times
  simp only [ruleD, encM] at q ⊢
  walk_at "dw"
  walk_at "di"
  walk_at "dw"
  walk_at "ds"
  walk_at "di"
  walk_at "dw"
  refine ⟨by decide, by decide, .inl (.inl (by omega)), by decide, ?_⟩
  have e1 : ((a : Int) + (d : Int)) % 3 = ((a + d) % 3 : Nat) := by omega
  have e2 : ((b : Int) + (e : Int)) % 3 = ((b + e) % 3 : Nat) := by omega
  have e3 : ((c : Int) + (f : Int) + (a : Int) * (e : Int)) % 3 = ((c + f + a * e) % 3 : Nat) := by norm_cast
  rw [e1, e2, e3]
  simp only [tms] at q
  exact q
theorem S__law_times_table {x y : List Nat} {Q : D → Prop} {E : EX → Prop} (hx : shape .table x) (hy : shape .table y) (q : Q (encM .table (tms .table x y))) : P__law_times [ruleD .table, encM .table x, encM .table y] Q E := by
  obtain ⟨a, b, c, d, rfl, a3, b3, c3, d3⟩ := hx
  obtain ⟨e, f, g, h, rfl, e3, f3, g3, h3⟩ := hy
  unfold P__law_times T__law_times
  simp only [ruleD, encM, tms] at q ⊢
  walk_at "dw"
  walk_at "di"
  walk_at "dw"
  walk_at "ds"
  walk_at "di"
  walk_at "dw"
  have hrow : ∀ (u v : Nat), u < 3 → v < 3 → ∀ j, j < 2 → ((u : Int) * (([e, f].getD j 0 : Nat) : Int) + (v : Int) * (([g, h].getD j 0 : Nat) : Int)) % 3 = ((u * [e, f].getD j 0 + v * [g, h].getD j 0) % 3 : Nat) := fun u v _ _ j _ => by norm_cast
  show forK _ _ _ ([[a, b], [c, d]].map tupN) _
  refine forI _ (fun i ρ => ∃ z w, ρ = [some (.val (.tup [.str "table"])), some (.val (.tup [tupN [a, b], tupN [c, d]])), some (.val (.tup [tupN [e, f], tupN [g, h]])), some (.val (.str "table")), none, none, none, none, none, none, none, some (.own (.lst (([[a, b], [c, d]].take i).map fun r => tupN [(r.getD 0 0 * e + r.getD 1 0 * g) % 3, (r.getD 0 0 * f + r.getD 1 0 * h) % 3]))), z, w]) ⟨none, none, rfl⟩ ?_ ?_
  · rintro i z ρ hz ⟨z0, w0, rfl⟩
    obtain ⟨r, hr, rfl⟩ := map_get hz
    have hi : i < 2 := getElem?_lt hr
    refine ⟨_, rfl, fun R hR => ?_⟩
    obtain ⟨u, v, rfl, u3, v3⟩ : ∃ u v, r = [u, v] ∧ u < 3 ∧ v < 3 := by
      have := List.mem_of_getElem? hr
      rcases List.mem_cons.mp this with rfl | this
      · exact ⟨_, _, rfl, a3, b3⟩
      · rcases List.mem_cons.mp this with rfl | this
        · exact ⟨_, _, rfl, c3, d3⟩
        · cases this
    walk_at "dw"
    refine ⟨by decide, by decide, by decide, ?_⟩
    show compK _ _ _ _ ((List.range 2).map nI) _
    refine compE (List.range 2) nI (fun j => (u * [e, f].getD j 0 + v * [g, h].getD j 0) % 3) nI (fun j hj => ⟨_, rfl, fun R' hR' => ?_⟩) ?_
    · have hj := List.mem_range.mp hj
      walk_at "dw"
      walk_at "di"
      walk_at "dw"
      have h1 : itD (tupN [e, f]) (nI j) = .ok (nI ([e, f].getD j 0)) := it_row hj
      have h2 : itD (tupN [g, h]) (nI j) = .ok (nI ([g, h].getD j 0)) := it_row hj
      rw [h1, h2]
      walk_at "dw"
      walk_at "di"
      walk_at "dw"
      refine ⟨.inl (.inl (by omega)), .inl (.inl (by omega)), by decide, ?_⟩
      rw [hrow u v u3 v3 j hj]
      exact hR'
    · walk_at "dw"
      refine ⟨by simp; omega, ?_⟩
      have e9 : (([[a, b], [c, d]].take (i + 1)).map fun r => tupN [(r.getD 0 0 * e + r.getD 1 0 * g) % 3, (r.getD 0 0 * f + r.getD 1 0 * h) % 3]) = (([[a, b], [c, d]].take i).map fun r => tupN [(r.getD 0 0 * e + r.getD 1 0 * g) % 3, (r.getD 0 0 * f + r.getD 1 0 * h) % 3]) ++ [tupN ((List.range 2).map fun j => (u * [e, f].getD j 0 + v * [g, h].getD j 0) % 3)] := by
        rw [List.take_add_one, hr, List.map_append]; rfl
      rw [← e9]
      exact hR _ ⟨_, _, rfl⟩
  · rintro ρ ⟨z0, w0, rfl⟩
    walk_at "dw"
    exact q
theorem S__law_times_rings {s x y : List Nat} {Q : D → Prop} {E : EX → Prop} (hs : rulePos (.rings s)) (q : Q (encM (.rings s) (tms (.rings s) x y))) : P__law_times [ruleD (.rings s), encM (.rings s) x, encM (.rings s) y] Q E := by
  unfold P__law_times T__law_times
  simp only [ruleD, encM] at q ⊢
  walk_at "dw"
  walk_at "di"
  walk_at "dw"
  walk_at "ds"
  walk_at "di"
  walk_at "dw"
  have hz : zipL3 (x.map nI) (y.map nI) (s.map nI) = (x.zip (y.zip s)).map fun p => .tup [nI p.1, nI p.2.1, nI p.2.2] := by
    unfold zipL3
    rw [List.zip_map, List.zip_map, List.map_map]
    rfl
  have hl : (x.zip (y.zip s)).length ≤ s.length := by
    rw [List.length_zip, List.length_zip]; omega
  rw [hz]
  refine ⟨by rw [List.length_map]; have := hs.2; omega, compE (x.zip (y.zip s)) _ (fun p => (p.1 + p.2.1) % p.2.2) nI (fun p hp => ⟨_, rfl, fun R hR => ?_⟩) ?_⟩
  · have hp2 : p.2.2 ∈ s := (List.of_mem_zip (List.of_mem_zip hp).2).2
    have := hs.1 _ hp2
    walk_at "dw"
    walk_at "di"
    walk_at "dw"
    refine ⟨by omega, ?_⟩
    have e1 : ((p.1 : Int) + (p.2.1 : Int)) % (p.2.2 : Int) = ((p.1 + p.2.1) % p.2.2 : Nat) := by norm_cast
    rw [e1]; exact hR
  · walk_at "dw"
    have : ∀ (x y s : List Nat), zip3 x y s = (x.zip (y.zip s)).map fun p => (p.1 + p.2.1) % p.2.2 := by
      intro x
      induction x with
      | nil => intro y s; rfl
      | cons a x ih =>
        intro y s
        cases y with
        | nil => rfl
        | cons b y =>
          cases s with
          | nil => rfl
          | cons c s =>
            show (a + b) % c :: zip3 x y s = _
            rw [ih y s]; rfl
    rw [← this]
    exact q
end KK
set_option Elab.async false
set_option linter.all false
set_option maxRecDepth 100000
namespace KK
open PySem PySem.Spec PyProof.Rows L2 PL GT
local macro_rules | `(tactic| walk_at "dw") => `(tactic| try simp only [dSeq, dPar, dVar, dVarB, dC, cK, dRet, dRetN, dDrop, dNext, dNever, dIf, dTest, bYes, bNot, bAnd, bOr, dAnd, dOr, dNot, dIfE, dChain, dBin, dUn, dArgs, dCall, dFun, dTup, dLst, dAsg, asg, asgs, Option.bind, dOwn, dApp, dExt, dSetIx, dAug, dFr, dOwnV, dAppPop, dMth, isSeq_lst, isSeq_tup, isSeq_tupN, dFor, iSeq_eq, seqK_lst, seqK_tup, seqK_tupN, seqK_tabD, seqD_lst, seqD_tup, seqD_tupN, seqD_tabD, iEnumD, iZip2, iZip3,  iRange1, iRange2, dRgL, dRgT, gR1, gR2, dComp, dZipStar, dRng_nat, rgD_lst, in_tupN, in_lstN, notIn_tupN, count_lstN, fold_tupN, dPut, dGet1, dGet2, dSortItems, wipeE, dFld_eq, fldK_table, fldK_many, fldK_backs, to_ok, to_cond,
  addD, subD, modD, fdivD, mulD, powD, negD, iaddD, ltD, leD, gtD, geD, eqD, neD, PL.intD, absD, sumD, all_lstB, any_lstB, all_true, len_lst, len_tup, len_tupN, len_tabD, List.length_map, List.length_range, list_lst, list_tup, list_tupN, tuple_lst, tuple_tup, tuple_tupN, addDO, mulDO, dOptI, dSl, dSlO, slD, isi_tup_tuple, isi_int_int, isi_int_bool, isi_lst_list, okd_int, okd_bl, okd_non, okd_tupN, okd_lstN, okd_tabD, eqv_int, eqv_tupN, eqv_lstN, eqv_tabD, Bool.and_self, true_and, and_true, Bool.true_and, Bool.and_true, Bool.and_false, Bool.not_true, Bool.not_false, Bool.false_eq_true, if_true, if_false, ite_true, ite_false, reduceIte, Bool.true_eq_false,
  List.map, List.length, List.append, List.replicate, List.cons_append, List.nil_append, Nat.sub_self, List.set, List.getElem?_cons_zero, List.getElem?_cons_succ, spBody, spBodyI, startE, startI, Nat.add_sub_cancel, Nat.reduceAdd, Nat.reduceSub, List.replicate_succ, List.replicate_zero, List.set_cons_zero, List.set_cons_succ])
local macro_rules | `(tactic| walk_at "ds") => `(tactic| try simp only [okS_rings, okS_turns, okS_quarters, okS_led, okS_orders, okS_three, okS_table, eqS_rings_rings, eqS_rings_turns, eqS_rings_quarters, eqS_rings_led, eqS_rings_orders, eqS_rings_three, eqS_rings_table, eqS_turns_rings, eqS_turns_turns, eqS_turns_quarters, eqS_turns_led, eqS_turns_orders, eqS_turns_three, eqS_turns_table, eqS_quarters_rings, eqS_quarters_turns, eqS_quarters_quarters, eqS_quarters_led, eqS_quarters_orders, eqS_quarters_three, eqS_quarters_table, eqS_led_rings, eqS_led_turns, eqS_led_quarters, eqS_led_led, eqS_led_orders, eqS_led_three, eqS_led_table, eqS_orders_rings, eqS_orders_turns, eqS_orders_quarters, eqS_orders_led, eqS_orders_orders, eqS_orders_three, eqS_orders_table, eqS_three_rings, eqS_three_turns, eqS_three_quarters, eqS_three_led, eqS_three_orders, eqS_three_three, eqS_three_table, eqS_table_rings, eqS_table_turns, eqS_table_quarters, eqS_table_led, eqS_table_orders, eqS_table_three, eqS_table_table, Bool.and_self, true_and, Bool.not_true, Bool.not_false, if_true, if_false, Bool.false_eq_true, reduceIte])
local macro_rules | `(tactic| walk_at "di") => `(tactic| try simp only [it_0, it_1, it_2, it_3, itN_0, itN_1, itN_2, itN_3, int_i, ruleD, to_ok])
/-! ### members of a rule's group -/
theorem cut_from {xs : List D} {k : Nat} : cutD xs (some (k : Int)) none = xs.drop k := by
  unfold PL.cutD
  rw [HT.sIx_nat, HT.sIx_none]
  by_cases h : k ≤ xs.length
  · rw [Nat.min_eq_left h, List.take_of_length_le (by rw [List.length_drop]; omega)]
  · rw [Nat.min_eq_right (by omega), List.drop_of_length_le (Nat.le_refl _), List.drop_of_length_le (by omega)]; simp
theorem S__law_wrong {row : List Nat} {Q : D → Prop} {E : EX → Prop} (hl : row.length ≤ 1000) (q : Q (nI (wrong row))) : P__law_wrong [tupN row] Q E := by
  unfold P__law_wrong T__law_wrong
  walk_at "dw"
  have ps : ∀ i one, row[i]? = some one → ((row.mapIdx fun at_ one => ((row.drop (at_ + 1)).filter fun other => decide (other < one)).length).take (i + 1)).sum = ((row.mapIdx fun at_ one => ((row.drop (at_ + 1)).filter fun other => decide (other < one)).length).take i).sum + ((row.drop (i + 1)).filter fun other => decide (other < one)).length := fun i one h => by
    rw [List.take_add_one, List.getElem?_mapIdx, h, List.sum_append]; simp
  refine forI _ (fun i ρ => ∃ a b c, ρ = [some (.val (tupN row)), some (.val (nI ((row.mapIdx fun at_ one => ((row.drop (at_ + 1)).filter fun other => decide (other < one)).length).take i).sum)), a, b, c]) ⟨none, none, none, rfl⟩ ?_ ?_
  · rintro i d ρ hd ⟨a, b, c, rfl⟩
    obtain ⟨one, h1, rfl⟩ := enum_get hd
    refine ⟨_, rfl, fun R hR => ?_⟩
    walk_at "dw"
    show (Ret.ok (.tup (cutD (row.map nI) (some ((i : Int) + 1)) none))).to _
    rw [show ((i : Int) + 1) = ((i + 1 : Nat) : Int) by omega, cut_from, ← List.map_drop]
    walk_at "dw"
    refine ⟨by rw [List.length_drop]; omega, compF (row.drop (i + 1)) nI (fun other => decide (other < one)) id nI (fun other _ => ⟨_, rfl, fun R' hR' => ?_, fun _ R' hR' => ?_⟩) ?_⟩
    · walk_at "dw"
      have : decide ((other : Int) < (one : Int)) = decide (other < one) := decide_eq_decide.mpr (by omega)
      rw [this]; exact hR'
    · walk_at "dw"
      exact hR'
    · walk_at "dw"
      refine hR _ ⟨some (.val (nI i)), some (.val (nI one)), c, ?_⟩
      rw [ps i one h1]
      rfl
  · rintro ρ ⟨a, b, c, rfl⟩
    rw [enum_len, List.length_map, List.take_of_length_le (by simp)]
    walk_at "dw"
    exact q
theorem longer_len (F : List (List Nat)) (s : Nat) : (longer F s).length = F.length * s := by
  unfold longer
  rw [List.length_flatMap]
  simp only [List.length_map, List.length_range]
  induction F with
  | nil => simp
  | cons a F ih => rw [List.map_cons, List.sum_cons, ih, List.length_cons, Nat.add_mul]; omega
theorem longer_snoc {F : List (List Nat)} {i s : Nat} {row : List Nat} (h : F[i]? = some row) : longer (F.take (i + 1)) s = longer (F.take i) s ++ (List.range s).map fun one => row ++ [one] := by
  unfold longer
  rw [List.take_add_one, h, List.flatMap_append]
  simp
def rowsAt (sizes : List Nat) (i : Nat) : List (List Nat) := (sizes.take i).foldl longer [[]]
theorem rowsAt_succ {sizes : List Nat} {i s : Nat} (h : sizes[i]? = some s) : rowsAt sizes (i + 1) = longer (rowsAt sizes i) s := by
  unfold rowsAt
  rw [List.take_add_one, h, List.foldl_append]; rfl
theorem rows_short : ∀ (i : Nat) (sizes : List Nat), ∀ r ∈ rowsAt sizes i, r.length ≤ i
  | 0, _, r, h => by
    have : r = [] := by simpa [rowsAt] using h
    subst this; simp
  | i + 1, sizes, r, h => by
    cases e : sizes[i]? with
    | none =>
      have : rowsAt sizes (i + 1) = rowsAt sizes i := by unfold rowsAt; rw [List.take_add_one, e]; simp
      rw [this] at h
      have := rows_short i sizes r h
      omega
    | some s =>
      rw [rowsAt_succ e] at h
      unfold longer at h
      obtain ⟨row, h1, h2⟩ := List.mem_flatMap.mp h
      obtain ⟨one, _, rfl⟩ := List.mem_map.mp h2
      have := rows_short i sizes row h1
      simp; omega
theorem S__law_members_rings {sizes : List Nat} {Q : D → Prop} {E : EX → Prop} (sp : SpD) (hl : sizes.length ≤ 1000) (hb : ∀ i, (rowsAt sizes i).length ≤ 1000) (hs : ∀ s ∈ sizes, s ≤ 1000) (q : Q (.lst ((mems (.rings sizes)).map tupN))) : spBody 14 (T__law_members P__law_wrong sp) [ruleD (.rings sizes)] Q E := by
  unfold T__law_members
  walk_at "dw"
  walk_at "di"
  walk_at "dw"
  walk_at "ds"
  walk_at "di"
  walk_at "dw"
  have e0 : [D.tup []] = (rowsAt sizes 0).map tupN := rfl
  rw [e0]
  refine forI (sizes.map nI) (fun i ρ => ∃ c a2 a3 a4 a5, (c = C.own (.lst ((rowsAt sizes i).map tupN)) ∨ c = C.val (.lst ((rowsAt sizes i).map tupN))) ∧ ρ = [some (.val (.tup [.str "rings", tupN sizes])), some c, a2, a3, a4, a5, none, none, none, none, none, none, none, none]) ⟨C.own (.lst ((rowsAt sizes 0).map tupN)), none, none, none, none, Or.inl (Eq.refl _), Eq.refl _⟩ ?_ ?_
  · rintro i d ρ hd ⟨c, a2, a3, a4, a5, hc, rfl⟩
    obtain ⟨s, h1, rfl⟩ := map_get hd
    have hi := getElem?_lt h1
    have hs1 := hs s (List.mem_of_getElem? h1)
    refine ⟨_, rfl, fun R hR => ?_⟩
    have key : ∀ (R' : DEnv → Prop), (∀ a4 a5, R' [some (.val (.tup [.str "rings", tupN sizes])), some (.val (.lst ((rowsAt sizes i).map tupN))), some (.val (nI s)), some (.own (.lst ((longer (rowsAt sizes i) s).map tupN))), a4, a5, none, none, none, none, none, none, none, none]) →
        ∀ (N : Nds) a4 a5, N.nx = R' → forK (.name 4) (dExt 3 (dComp (iRange1 [(dVar 2)]) (.name 5) bYes (dBin addD (dVarB 4) (dTup [(dVar 5)])) [5])) N ((rowsAt sizes i).map tupN) [some (.val (.tup [.str "rings", tupN sizes])), some (.val (.lst ((rowsAt sizes i).map tupN))), some (.val (nI s)), some (.own (.lst [])), a4, a5, none, none, none, none, none, none, none, none] := by
      rintro R' hR' N a4 a5 rfl
      refine forI _ (fun j ρ => ∃ a4 a5, ρ = [some (.val (.tup [.str "rings", tupN sizes])), some (.val (.lst ((rowsAt sizes i).map tupN))), some (.val (nI s)), some (.own (.lst ((longer ((rowsAt sizes i).take j) s).map tupN))), a4, a5, none, none, none, none, none, none, none, none]) ⟨a4, a5, rfl⟩ ?_ ?_
      · rintro j d ρ hd ⟨a4, a5, rfl⟩
        obtain ⟨row, h2, rfl⟩ := map_get hd
        have hrow := rows_short i sizes row (List.mem_of_getElem? h2)
        refine ⟨_, rfl, fun R hR => ?_⟩
        walk_at "dw"
        refine ⟨by omega, by omega, by omega, compE (List.range s) nI (fun one => row ++ [one]) tupN (fun one _ => ⟨_, rfl, fun R' hR' => ?_⟩) ?_⟩
        · walk_at "dw"
          show (Ret.cond _ _).to _
          refine ⟨by rw [len_map]; show row.length + 1 ≤ lim; unfold lim; omega, ?_⟩
          have : D.tup (row.map nI ++ [nI one]) = tupN (row ++ [one]) := by unfold tupN; rw [List.map_append]; rfl
          rw [this]; exact hR'
        · walk_at "dw"
          have h3 := longer_snoc (s := s) h2
          have h4 : (longer ((rowsAt sizes i).take (j + 1)) s).length ≤ (rowsAt sizes (i + 1)).length := by
            rw [rowsAt_succ h1, longer_len, longer_len]
            exact Nat.mul_le_mul_right _ (List.length_take_le' _ _)
          have h5 := hb (i + 1)
          rw [h3, List.length_append, List.length_map, List.length_range] at h4
          refine ⟨by omega, ?_⟩
          rw [← List.map_append, ← h3]
          exact hR _ ⟨_, _, rfl⟩
      · rintro ρ ⟨a4, a5, rfl⟩
        rw [len_map, List.take_length]
        exact hR' _ _
    rcases hc with rfl | rfl <;>
    · walk_at "dw"
      refine key _ (fun a4 a5 => ?_) _ _ _ rfl
      walk_at "dw"
      rw [← rowsAt_succ h1]
      exact hR _ ⟨C.val (.lst ((rowsAt sizes (i + 1)).map tupN)), _, _, _, _, Or.inr (Eq.refl _), Eq.refl _⟩
  · rintro ρ ⟨c, a2, a3, a4, a5, hc, rfl⟩
    rw [len_map] at hc
    have e1 : rowsAt sizes sizes.length = mems (.rings sizes) := by unfold rowsAt mems; rw [List.take_length]
    rw [e1] at hc
    rcases hc with rfl | rfl <;>
    · walk_at "dw"
      exact q
end KK
set_option Elab.async false
set_option linter.all false
set_option maxRecDepth 100000
namespace KK
open PySem PySem.Spec PyProof.Rows L2 PL GT
local macro_rules | `(tactic| walk_at "dw") => `(tactic| try simp only [dSeq, dPar, dVar, dVarB, dC, cK, dRet, dRetN, dDrop, dNext, dNever, dIf, dTest, bYes, bNot, bAnd, bOr, dAnd, dOr, dNot, dIfE, dChain, dBin, dUn, dArgs, dCall, dFun, dTup, dLst, dAsg, asg, asgs, Option.bind, dOwn, dApp, dExt, dSetIx, dAug, dFr, dOwnV, dAppPop, dMth, isSeq_lst, isSeq_tup, isSeq_tupN, dFor, iSeq_eq, seqK_lst, seqK_tup, seqK_tupN, seqK_tabD, seqD_lst, seqD_tup, seqD_tupN, seqD_tabD, iEnumD, iZip2, iZip3,  iRange1, iRange2, dRgL, dRgT, gR1, gR2, dComp, dZipStar, dRng_nat, rgD_lst, in_tupN, in_lstN, notIn_tupN, count_lstN, fold_tupN, dPut, dGet1, dGet2, dSortItems, wipeE, dFld_eq, fldK_table, fldK_many, fldK_backs, to_ok, to_cond,
  addD, subD, modD, fdivD, mulD, powD, negD, iaddD, ltD, leD, gtD, geD, eqD, neD, PL.intD, absD, sumD, all_lstB, any_lstB, all_true, len_lst, len_tup, len_tupN, len_tabD, List.length_map, List.length_range, list_lst, list_tup, list_tupN, tuple_lst, tuple_tup, tuple_tupN, addDO, mulDO, dOptI, dSl, dSlO, slD, isi_tup_tuple, isi_int_int, isi_int_bool, isi_lst_list, okd_int, okd_bl, okd_non, okd_tupN, okd_lstN, okd_tabD, eqv_int, eqv_tupN, eqv_lstN, eqv_tabD, Bool.and_self, true_and, and_true, Bool.true_and, Bool.and_true, Bool.and_false, Bool.not_true, Bool.not_false, Bool.false_eq_true, if_true, if_false, ite_true, ite_false, reduceIte, Bool.true_eq_false,
  List.map, List.length, List.append, List.replicate, List.cons_append, List.nil_append, Nat.sub_self, List.set, List.getElem?_cons_zero, List.getElem?_cons_succ, spBody, spBodyI, startE, startI, Nat.add_sub_cancel, Nat.reduceAdd, Nat.reduceSub, List.replicate_succ, List.replicate_zero, List.set_cons_zero, List.set_cons_succ])
local macro_rules | `(tactic| walk_at "ds") => `(tactic| try simp only [okS_rings, okS_turns, okS_quarters, okS_led, okS_orders, okS_three, okS_table, eqS_rings_rings, eqS_rings_turns, eqS_rings_quarters, eqS_rings_led, eqS_rings_orders, eqS_rings_three, eqS_rings_table, eqS_turns_rings, eqS_turns_turns, eqS_turns_quarters, eqS_turns_led, eqS_turns_orders, eqS_turns_three, eqS_turns_table, eqS_quarters_rings, eqS_quarters_turns, eqS_quarters_quarters, eqS_quarters_led, eqS_quarters_orders, eqS_quarters_three, eqS_quarters_table, eqS_led_rings, eqS_led_turns, eqS_led_quarters, eqS_led_led, eqS_led_orders, eqS_led_three, eqS_led_table, eqS_orders_rings, eqS_orders_turns, eqS_orders_quarters, eqS_orders_led, eqS_orders_orders, eqS_orders_three, eqS_orders_table, eqS_three_rings, eqS_three_turns, eqS_three_quarters, eqS_three_led, eqS_three_orders, eqS_three_three, eqS_three_table, eqS_table_rings, eqS_table_turns, eqS_table_quarters, eqS_table_led, eqS_table_orders, eqS_table_three, eqS_table_table, Bool.and_self, true_and, Bool.not_true, Bool.not_false, if_true, if_false, Bool.false_eq_true, reduceIte])
local macro_rules | `(tactic| walk_at "di") => `(tactic| try simp only [it_0, it_1, it_2, it_3, itN_0, itN_1, itN_2, itN_3, int_i, ruleD, to_ok])
theorem okT2 : okd (.tup [.str "turns", .str "quarters"]) = true := by decide +kernel
theorem inS {x : D} {b : Bool} {Q : D → Prop} (ok : okd x = true) (h : (eqv (.str "turns") x || (eqv (.str "quarters") x || false)) = b) : (inD2 x (.tup [.str "turns", .str "quarters"])).to Q = Q (.bl b) := by
  show (Ret.cond ((okd x && okd (.tup [.str "turns", .str "quarters"])) = true) (.bl (eqv (.str "turns") x || (eqv (.str "quarters") x || false)))).to Q = _
  rw [ok, okT2, h]
  exact propext ⟨fun h => h.2, fun h => ⟨rfl, h⟩⟩
theorem inS_turns {Q : D → Prop} : (inD2 (.str "turns") (.tup [.str "turns", .str "quarters"])).to Q = Q (.bl true) := inS okS_turns (by rw [eqS_turns_turns]; rfl)
theorem inS_quarters {Q : D → Prop} : (inD2 (.str "quarters") (.tup [.str "turns", .str "quarters"])).to Q = Q (.bl true) := inS okS_quarters (by rw [eqS_turns_quarters, eqS_quarters_quarters]; rfl)
theorem inS_led {Q : D → Prop} : (inD2 (.str "led") (.tup [.str "turns", .str "quarters"])).to Q = Q (.bl false) := inS okS_led (by rw [eqS_turns_led, eqS_quarters_led]; rfl)
theorem inS_orders {Q : D → Prop} : (inD2 (.str "orders") (.tup [.str "turns", .str "quarters"])).to Q = Q (.bl false) := inS okS_orders (by rw [eqS_turns_orders, eqS_quarters_orders]; rfl)
theorem inS_three {Q : D → Prop} : (inD2 (.str "three") (.tup [.str "turns", .str "quarters"])).to Q = Q (.bl false) := inS okS_three (by rw [eqS_turns_three, eqS_quarters_three]; rfl)
theorem inS_table {Q : D → Prop} : (inD2 (.str "table") (.tup [.str "turns", .str "quarters"])).to Q = Q (.bl false) := inS okS_table (by rw [eqS_turns_table, eqS_quarters_table]; rfl)
local macro_rules | `(tactic| walk_at "dx") => `(tactic| (walk_at "dw"; walk_at "di"; walk_at "dw"; walk_at "ds"; try simp only [inS_turns, inS_quarters, inS_led, inS_orders, inS_three, inS_table]; walk_at "dw"; walk_at "ds"; walk_at "di"; walk_at "dw"))
theorem S__law_members_turns {n : Nat} {Q : D → Prop} {E : EX → Prop} (sp : SpD) (hn : n ≤ 1000) (q : Q (.lst ((mems (.turns n)).map tupN))) : spBody 14 (T__law_members P__law_wrong sp) [ruleD (.turns n)] Q E := by
  unfold T__law_members
  walk_at "dx"
  walk_at "dx"
  walk_at "dx"
  have eq7 : ∀ c : Nat, (List.range n).map (fun k => [k, c]) = (List.range n).map fun k => [k, c] := fun _ => rfl
  refine ⟨by omega, by omega, by omega, compE (List.range n) nI (fun k => [k, 0]) tupN (fun k _ => ⟨_, rfl, fun R hR => ?_⟩) ?_⟩
  · walk_at "dw"
    exact hR
  · refine ⟨by omega, by omega, by omega, compE (List.range n) nI (fun k => [k, 1]) tupN (fun k _ => ⟨_, rfl, fun R hR => ?_⟩) ?_⟩
    · walk_at "dw"
      exact hR
    · walk_at "dw"
      refine ⟨by unfold lim; omega, ?_⟩
      rw [← List.map_append]
      exact q
theorem S__law_members_quarters {n : Nat} {Q : D → Prop} {E : EX → Prop} (sp : SpD) (hn : n ≤ 1000) (q : Q (.lst ((mems (.quarters n)).map tupN))) : spBody 14 (T__law_members P__law_wrong sp) [ruleD (.quarters n)] Q E := by
  unfold T__law_members
  walk_at "dx"
  walk_at "dx"
  walk_at "dx"
  have en : (2 : Int) * (n : Int) = ((2 * n : Nat) : Int) := by omega
  rw [en, dRng_nat]
  simp only [List.length_map, List.length_range]
  refine ⟨.inl (.inl (by decide)), by omega, by omega, by omega, compE (List.range (2 * n)) nI (fun k => [k, 0]) tupN (fun k _ => ⟨_, rfl, fun R hR => ?_⟩) ?_⟩
  · walk_at "dw"
    exact hR
  · refine ⟨by omega, by omega, by omega, compE (List.range (2 * n)) nI (fun k => [k, 1]) tupN (fun k _ => ⟨_, rfl, fun R hR => ?_⟩) ?_⟩
    · walk_at "dw"
      exact hR
    · walk_at "dw"
      refine ⟨by unfold lim; omega, ?_⟩
      rw [← List.map_append]
      exact q
theorem flat_snoc {α : Type} (f : Nat → List α) (i : Nat) : (List.range (i + 1)).flatMap f = (List.range i).flatMap f ++ f i := by
  rw [List.range_succ, List.flatMap_append]; simp
theorem S__law_members_led {n k r : Nat} {Q : D → Prop} {E : EX → Prop} (sp : SpD) (hn : n ≤ 1000) (hk : k ≤ 1000) (q : Q (.lst ((mems (.led n k r)).map tupN))) : spBody 14 (T__law_members P__law_wrong sp) [ruleD (.led n k r)] Q E := by
  unfold T__law_members
  walk_at "dx"
  walk_at "dx"
  walk_at "dx"
  refine ⟨by omega, by omega, ?_⟩
  have fl : ∀ i, ((List.range i).flatMap fun a => (List.range n).map fun x => [a, x]).length = i * n := by
    intro i
    induction i with
    | zero => simp
    | succ i ih => rw [flat_snoc, List.length_append, ih, Nat.add_mul]; simp
  refine forI ((List.range k).map nI) (fun i ρ => ∃ a8 a9, ρ = [some (.val (.tup [.str "led", nI n, nI k, nI r])), some (.own (.lst (((List.range i).flatMap fun a => (List.range n).map fun x => [a, x]).map tupN))), none, none, none, none, none, none, a8, a9, none, none, none, none]) ⟨none, none, Eq.refl _⟩ ?_ ?_
  · rintro i d ρ hd ⟨a8, a9, rfl⟩
    obtain ⟨x, hx, rfl⟩ := map_get hd
    have hi := getElem?_lt hx
    rw [List.length_range] at hi
    rw [List.getElem?_range hi] at hx
    cases hx
    refine ⟨_, rfl, fun R hR => ?_⟩
    walk_at "dx"
    refine ⟨by omega, by omega, by omega, compE (List.range n) nI (fun x => [i, x]) tupN (fun x _ => ⟨_, rfl, fun R hR => ?_⟩) ?_⟩
    · walk_at "dw"
      exact hR
    · walk_at "dw"
      have h1 : i * n ≤ 1000 * 1000 := Nat.mul_le_mul (by omega) hn
      refine ⟨by rw [fl]; omega, ?_⟩
      rw [← List.map_append, ← flat_snoc]
      exact hR _ ⟨some (.val (nI i)), a9, Eq.refl _⟩
  · rintro ρ ⟨a8, a9, rfl⟩
    simp only [List.length_map, List.length_range]
    walk_at "dw"
    exact q
theorem S__law_members_three {Q : D → Prop} {E : EX → Prop} (sp : SpD) (hsp : ∀ Q', Q' (.lst ((mems (.rings [3, 3, 3])).map tupN)) → sp [ruleD (.rings [3, 3, 3])] Q' E) (q : Q (.lst ((mems .three).map tupN))) : spBody 14 (T__law_members P__law_wrong sp) [ruleD .three] Q E := by
  unfold T__law_members
  walk_at "dx"
  walk_at "dx"
  walk_at "dx"
  walk_at "dx"
  exact hsp _ q
/-! orders -/
theorem ordl_snoc {F : List (List Nat)} {i : Nat} {row : List Nat} (h : F[i]? = some row) : ordLonger (F.take (i + 1)) = ordLonger (F.take i) ++ (((List.range 4).filter fun one => !row.contains one).map fun one => row ++ [one]) := by
  unfold ordLonger
  rw [List.take_add_one, h, List.flatMap_append]
  simp
def ordAt : Nat → List (List Nat)
  | 0 => [[]]
  | i + 1 => ordLonger (ordAt i)
theorem ord_short : ∀ i, i ≤ 4 → (ordAt i).length ≤ 24 ∧ ∀ r ∈ ordAt i, r.length = i := by
  intro i hi
  have : i = 0 ∨ i = 1 ∨ i = 2 ∨ i = 3 ∨ i = 4 := by omega
  rcases this with rfl | rfl | rfl | rfl | rfl <;> decide +kernel
theorem S__law_members_orders {e : Nat} {Q : D → Prop} {E : EX → Prop} (sp : SpD) (q : Q (.lst ((mems (.orders e)).map tupN))) : spBody 14 (T__law_members P__law_wrong sp) [ruleD (.orders e)] Q E := by
  unfold T__law_members
  walk_at "dx"
  walk_at "dx"
  walk_at "dx"
  refine ⟨by decide, by decide, ?_⟩
  have d4 : dRng 0 (Int.toNat 4) = (List.range 4).map nI := rfl
  rw [d4]
  have key : ∀ (i : Nat) (R' : DEnv → Prop) (x1 x2 : Option C), i < 4 → (∀ a4 a5, R' [some (.val (.tup [.str "orders", nI e])), some (.val (.lst ((ordAt i).map tupN))), x1, some (.own (.lst ((ordLonger (ordAt i)).map tupN))), a4, a5, none, none, none, none, x2, none, none, none]) →
      ∀ (N : Nds) a4 a5, N.nx = R' → forK (.name 4) (dExt 3 (dComp (iRange1 [(dC (.int 4))]) (.name 5) (dTest (dBin notInD2 (dVarB 5) (dVarB 4))) (dBin addD (dVarB 4) (dTup [(dVar 5)])) [5])) N ((ordAt i).map tupN) [some (.val (.tup [.str "orders", nI e])), some (.val (.lst ((ordAt i).map tupN))), x1, some (.own (.lst [])), a4, a5, none, none, none, none, x2, none, none, none] := by
    rintro i R' x1 x2 hi hR' N a4 a5 rfl
    obtain ⟨hl, hr⟩ := ord_short i (by omega)
    refine forI _ (fun j ρ => ∃ a4 a5, ρ = [some (.val (.tup [.str "orders", nI e])), some (.val (.lst ((ordAt i).map tupN))), x1, some (.own (.lst ((ordLonger ((ordAt i).take j)).map tupN))), a4, a5, none, none, none, none, x2, none, none, none]) ⟨a4, a5, Eq.refl _⟩ ?_ ?_
    · rintro j d ρ hd ⟨a4, a5, rfl⟩
      obtain ⟨row, h2, rfl⟩ := map_get hd
      have hrow := hr row (List.mem_of_getElem? h2)
      refine ⟨_, rfl, fun R hR => ?_⟩
      walk_at "dw"
      refine ⟨by decide, by decide, by decide, ?_⟩
      rw [d4]
      refine compF (List.range 4) nI (fun one => !row.contains one) (fun one => row ++ [one]) tupN (fun one _ => ⟨_, rfl, fun R' hR' => ?_, fun _ R' hR' => ?_⟩) ?_
      · walk_at "dw"
        have : (!decide (one ∈ row)) = !row.contains one := by simp
        rw [this]; exact hR'
      · walk_at "dw"
        show (Ret.cond _ _).to _
        refine ⟨by rw [len_map]; show row.length + 1 ≤ lim; unfold lim; omega, ?_⟩
        have : D.tup (row.map nI ++ [nI one]) = tupN (row ++ [one]) := by unfold tupN; rw [List.map_append]; rfl
        rw [this]; exact hR'
      · walk_at "dw"
        have h3 := ordl_snoc h2
        have h4 : (ordLonger ((ordAt i).take (j + 1))).length ≤ 24 * 4 := by
          have : ∀ F : List (List Nat), (ordLonger F).length ≤ F.length * 4 := by
            intro F
            unfold ordLonger
            rw [List.length_flatMap]
            induction F with
            | nil => simp
            | cons a F ih =>
              rw [List.map_cons, List.sum_cons, List.length_cons, Nat.add_mul, List.length_map]
              have := List.length_filter_le (fun one => !a.contains one) (List.range 4)
              rw [List.length_range] at this
              omega
          refine Nat.le_trans (this _) (Nat.mul_le_mul_right _ (Nat.le_trans (List.length_take_le' _ _) hl))
        rw [h3, List.length_append, List.length_map] at h4
        refine ⟨by omega, ?_⟩
        rw [← List.map_append, ← h3]
        exact hR _ ⟨some (.val (tupN row)), a5, Eq.refl _⟩
    · rintro ρ ⟨a4, a5, rfl⟩
      rw [len_map, List.take_length]
      exact hR' _ _
  have e0 : [D.tup []] = (ordAt 0).map tupN := rfl
  rw [e0]
  refine forI ((List.range 4).map nI) (fun i ρ => ∃ c a2 a3 a4 a5 a10, (c = C.own (.lst ((ordAt i).map tupN)) ∨ c = C.val (.lst ((ordAt i).map tupN))) ∧ ρ = [some (.val (.tup [.str "orders", nI e])), some c, a2, a3, a4, a5, none, none, none, none, a10, none, none, none]) ⟨C.own (.lst ((ordAt 0).map tupN)), none, none, none, none, none, Or.inl (Eq.refl _), Eq.refl _⟩ ?_ ?_
  · rintro i d ρ hd ⟨c, a2, a3, a4, a5, a10, hc, rfl⟩
    obtain ⟨x, hx, rfl⟩ := map_get hd
    have hi := getElem?_lt hx
    rw [List.length_range] at hi
    refine ⟨_, rfl, fun R hR => ?_⟩
    rcases hc with rfl | rfl <;>
    · walk_at "dw"
      refine key i _ _ _ hi (fun a4 a5 => ?_) _ _ _ rfl
      walk_at "dw"
      exact hR _ ⟨C.val (.lst ((ordAt (i + 1)).map tupN)), _, _, _, _, _, Or.inr (Eq.refl _), Eq.refl _⟩
  · rintro ρ ⟨c, a2, a3, a4, a5, a10, hc, rfl⟩
    rw [len_map, List.length_range] at hc
    obtain ⟨hl, hr⟩ := ord_short 4 (by omega)
    have fin : compK (.name 4) (bOr (dTest (dBin eqD (dBin itD (dVarB 0) (dC (.int 1))) (dC (.int 0)))) (dTest (dBin eqD (dBin modD (dCall PL.intD [(dFun P__law_wrong [(dVar 4)])]) (dC (.int 2))) (dC (.int 0))))) (dVar 4) [some (.val (.tup [.str "orders", nI e])), some (.val (.lst ((ordAt 4).map tupN))), a2, a3, none, a5, none, none, none, none, a10, none, none, none] ((ordAt 4).map tupN) (fun ys => Q (.lst ys)) := by
      refine compF (ordAt 4) tupN (fun row => decide (e = 0) || decide (wrong row % 2 = 0)) id tupN (fun row hrow => ⟨_, rfl, fun R' hR' => ?_, fun _ R' hR' => ?_⟩) ?_
      · walk_at "dw"
        walk_at "di"
        walk_at "dw"
        by_cases he : e = 0
        · refine ifT (by simp [he]) ?_
          simp only [he, decide_true, Bool.true_or] at hR'
          exact hR'
        · refine ifF (by simp; omega) ?_
          refine S__law_wrong (by rw [hr row hrow]; omega) ?_
          walk_at "di"
          walk_at "dw"
          refine ⟨by decide, ?_⟩
          have : decide (((wrong row : Nat) : Int) % 2 = 0) = (decide (e = 0) || decide (wrong row % 2 = 0)) := by
            rw [decide_eq_false he, Bool.false_or]
            exact decide_eq_decide.mpr (by omega)
          rw [this]; exact hR'
      · walk_at "dw"
        exact hR'
      · rw [List.map_id]
        exact q
    rcases hc with rfl | rfl <;>
    · walk_at "dw"
      exact ⟨by omega, fin⟩
theorem S__law_members_table {Q : D → Prop} {E : EX → Prop} (sp : SpD) (hsp : ∀ Q', Q' (.lst ((mems (.rings [3, 3, 3, 3])).map tupN)) → sp [ruleD (.rings [3, 3, 3, 3])] Q' E) (q : Q (.lst ((mems .table).map (encM .table)))) : spBody 14 (T__law_members P__law_wrong sp) [ruleD .table] Q E := by
  unfold T__law_members
  walk_at "dx"
  walk_at "dx"
  walk_at "dx"
  walk_at "dx"
  refine hsp _ ?_
  walk_at "dw"
  have h4 : ∀ m ∈ mems (.rings [3, 3, 3, 3]), ∃ a b c d : Nat, m = [a, b, c, d] ∧ a < 3 ∧ b < 3 ∧ c < 3 ∧ d < 3 := by
    have : ((mems (.rings [3, 3, 3, 3])).all fun m => match m with | [a, b, c, d] => decide (a < 3) && (decide (b < 3) && (decide (c < 3) && decide (d < 3))) | _ => false) = true := by decide +kernel
    intro m hm
    have := List.all_eq_true.mp this m hm
    split at this
    · rename_i a b c d
      simp only [Bool.and_eq_true, decide_eq_true_eq] at this
      exact ⟨a, b, c, d, rfl, this⟩
    · cases this
  have l4 : (mems (.rings [3, 3, 3, 3])).length = 81 := by decide +kernel
  let p : List Nat → Bool := fun m => match m with | [a, b, c, d] => decide (((a : Int) * d - b * c) % 3 = 1) | _ => false
  refine forI ((mems (.rings [3, 3, 3, 3])).map tupN) (fun i ρ => ∃ a8 a11 a12 a13, ρ = [some (.val (.tup [.str "table"])), some (.own (.lst ((((mems (.rings [3, 3, 3, 3])).take i).filter p).map (encM .table)))), none, none, none, none, none, none, a8, none, none, a11, a12, a13]) ⟨none, none, none, none, Eq.refl _⟩ ?_ ?_
  · rintro i z ρ hz ⟨a8, a11, a12, a13, rfl⟩
    obtain ⟨m, hm, rfl⟩ := map_get hz
    obtain ⟨a, b, c, d, rfl, a3, b3, c3, d3⟩ := h4 m (List.mem_of_getElem? hm)
    refine ⟨_, rfl, fun R hR => ?_⟩
    have hlen : (((mems (.rings [3, 3, 3, 3])).take i).filter p).length ≤ 81 := Nat.le_trans (List.length_filter_le _ _) (by rw [List.length_take, l4]; omega)
    have et : ((mems (.rings [3, 3, 3, 3])).take (i + 1)).filter p = ((mems (.rings [3, 3, 3, 3])).take i).filter p ++ if decide (((a : Int) * d - b * c) % 3 = 1) = true then [[a, b, c, d]] else [] := by
      rw [List.take_add_one, hm, List.filter_append]
      congr 1
      show List.filter p [[a, b, c, d]] = _
      rw [List.filter_cons]
      rfl
    walk_at "dw"
    walk_at "di"
    walk_at "dw"
    refine ⟨.inl (.inl (by omega)), .inl (.inl (by omega)), by decide, ?_⟩
    by_cases hp : ((a : Int) * d - b * c) % 3 = 1
    · rw [if_pos (decide_eq_true hp)]
      rw [if_pos (decide_eq_true hp)] at et
      refine ⟨by omega, ?_⟩
      refine hR _ ⟨some (.val (nI a)), some (.val (nI b)), some (.val (nI c)), some (.val (nI d)), ?_⟩
      rw [et, List.map_append]
      exact Eq.refl _
    · rw [if_neg (by rw [decide_eq_false hp]; decide)]
      rw [if_neg (by rw [decide_eq_false hp]; decide), List.append_nil] at et
      refine ⟨by omega, ?_⟩
      refine hR _ ⟨some (.val (nI a)), some (.val (nI b)), some (.val (nI c)), some (.val (nI d)), ?_⟩
      rw [et, List.append_nil]
  · rintro ρ ⟨a8, a11, a12, a13, rfl⟩
    rw [len_map, List.take_length]
    have hlen : ((mems (.rings [3, 3, 3, 3])).filter p).length ≤ 81 := by rw [← l4]; exact List.length_filter_le _ _
    walk_at "dw"
    refine ⟨by omega, compF ((mems (.rings [3, 3, 3, 3])).filter p) (encM .table) (fun m => decide (m ≠ [1, 0, 0, 1])) id (encM .table) (fun m hm => ⟨_, rfl, fun R' hR' => ?_, fun _ R' hR' => ?_⟩) ?_⟩
    · obtain ⟨a, b, c, d, rfl, _⟩ := h4 m (List.mem_filter.mp hm).1
      walk_at "dw"
      have ek : D.tup [D.tup [.int 1, .int 0], D.tup [.int 0, .int 1]] = D.tup [tupN [1, 0], tupN [0, 1]] := rfl
      have ok2 : ∀ r s : List Nat, okd (.tup [tupN r, tupN s]) = true := fun r s => okvL_of 59 tupN [r, s] fun r _ => okv_tupN 58 r
      have eq2 : ∀ r s r' s' : List Nat, eqv (.tup [tupN r, tupN s]) (.tup [tupN r', tupN s']) = decide ([r, s] = [r', s']) := fun r s r' s' => eqvL_of tupN eqv_tupN [r, s] [r', s']
      simp only [encM]
      rw [ek, ok2, ok2, eq2]
      refine ⟨rfl, ?_⟩
      have : (!decide ([[a, b], [c, d]] = [[1, 0], [0, 1]])) = decide ([a, b, c, d] ≠ [1, 0, 0, 1]) := by
        rw [← decide_not]
        refine decide_eq_decide.mpr ?_
        simp [and_assoc]
      rw [this]; exact hR'
    · walk_at "dw"
      exact hR'
    · walk_at "dw"
      refine ⟨?_, ?_⟩
      · have := List.length_filter_le (fun m => decide (m ≠ [1, 0, 0, 1])) ((mems (.rings [3, 3, 3, 3])).filter p)
        unfold lim; omega
      · exact q
end KK
set_option Elab.async false
set_option linter.all false
set_option maxRecDepth 100000
set_option maxHeartbeats 2000000
namespace KK
open PySem PySem.Spec PyProof.Rows L2 PL GT
local macro_rules | `(tactic| walk_at "dw") => `(tactic| try simp only [dSeq, dPar, dVar, dVarB, dC, cK, dRet, dRetN, dDrop, dNext, dNever, dIf, dTest, bYes, bNot, bAnd, bOr, dAnd, dOr, dNot, dIfE, dChain, dBin, dUn, dArgs, dCall, dFun, dTup, dLst, dAsg, asg, asgs, Option.bind, dOwn, dApp, dExt, dSetIx, dAug, dFr, dOwnV, dAppPop, dMth, isSeq_lst, isSeq_tup, isSeq_tupN, dFor, iSeq_eq, seqK_lst, seqK_tup, seqK_tupN, seqK_tabD, seqD_lst, seqD_tup, seqD_tupN, seqD_tabD, iEnumD, iZip2, iZip3,  iRange1, iRange2, dRgL, dRgT, gR1, gR2, dComp, dZipStar, dRng_nat, rgD_lst, in_tupN, in_lstN, notIn_tupN, count_lstN, fold_tupN, dPut, dGet1, dGet2, dSortItems, wipeE, dFld_eq, fldK_table, fldK_many, fldK_backs, to_ok, to_cond,
  addD, subD, modD, fdivD, mulD, powD, negD, iaddD, ltD, leD, gtD, geD, eqD, neD, PL.intD, absD, sumD, all_lstB, any_lstB, all_true, len_lst, len_tup, len_tupN, len_tabD, List.length_map, List.length_range, list_lst, list_tup, list_tupN, tuple_lst, tuple_tup, tuple_tupN, addDO, mulDO, dOptI, dSl, dSlO, slD, isi_tup_tuple, isi_int_int, isi_int_bool, isi_lst_list, okd_int, okd_bl, okd_non, okd_tupN, okd_lstN, okd_tabD, eqv_int, eqv_tupN, eqv_lstN, eqv_tabD, Bool.and_self, true_and, and_true, Bool.true_and, Bool.and_true, Bool.and_false, Bool.not_true, Bool.not_false, Bool.false_eq_true, if_true, if_false, ite_true, ite_false, reduceIte, Bool.true_eq_false,
  List.map, List.length, List.append, List.replicate, List.cons_append, List.nil_append, Nat.sub_self, List.set, List.getElem?_cons_zero, List.getElem?_cons_succ, spBody, spBodyI, startE, startI, Nat.add_sub_cancel, Nat.reduceAdd, Nat.reduceSub, List.replicate_succ, List.replicate_zero, List.set_cons_zero, List.set_cons_succ])
local macro_rules | `(tactic| walk_at "ds") => `(tactic| try simp only [okS_rings, okS_turns, okS_quarters, okS_led, okS_orders, okS_three, okS_table, eqS_rings_rings, eqS_rings_turns, eqS_rings_quarters, eqS_rings_led, eqS_rings_orders, eqS_rings_three, eqS_rings_table, eqS_turns_rings, eqS_turns_turns, eqS_turns_quarters, eqS_turns_led, eqS_turns_orders, eqS_turns_three, eqS_turns_table, eqS_quarters_rings, eqS_quarters_turns, eqS_quarters_quarters, eqS_quarters_led, eqS_quarters_orders, eqS_quarters_three, eqS_quarters_table, eqS_led_rings, eqS_led_turns, eqS_led_quarters, eqS_led_led, eqS_led_orders, eqS_led_three, eqS_led_table, eqS_orders_rings, eqS_orders_turns, eqS_orders_quarters, eqS_orders_led, eqS_orders_orders, eqS_orders_three, eqS_orders_table, eqS_three_rings, eqS_three_turns, eqS_three_quarters, eqS_three_led, eqS_three_orders, eqS_three_three, eqS_three_table, eqS_table_rings, eqS_table_turns, eqS_table_quarters, eqS_table_led, eqS_table_orders, eqS_table_three, eqS_table_table, Bool.and_self, true_and, Bool.not_true, Bool.not_false, if_true, if_false, Bool.false_eq_true, reduceIte])
local macro_rules | `(tactic| walk_at "di") => `(tactic| try simp only [it_0, it_1, it_2, it_3, itN_0, itN_1, itN_2, itN_3, int_i, ruleD, to_ok])
/-! ### any rule -/
def okM : Rule → Bool
  | .rings s => s.all (fun x => decide (0 < x) && decide (x ≤ 1000)) && (decide (s.length ≤ 1000) && (List.range (s.length + 1)).all fun i => decide ((rowsAt s i).length ≤ 1000))
  | .turns n => decide (0 < n) && decide (n ≤ 1000)
  | .quarters n => decide (0 < n) && decide (n ≤ 1000)
  | .led n k r => decide (0 < n) && (decide (n ≤ 1000) && (decide (0 < k) && (decide (k ≤ 1000) && decide (r ≤ 1000))))
  | _ => true
theorem okM_rings {s : List Nat} (h : okM (.rings s) = true) : (∀ x ∈ s, 0 < x ∧ x ≤ 1000) ∧ s.length ≤ 1000 ∧ ∀ i, (rowsAt s i).length ≤ 1000 := by
  unfold okM at h
  simp only [Bool.and_eq_true, List.all_eq_true, decide_eq_true_eq] at h
  refine ⟨h.1, h.2.1, fun i => ?_⟩
  by_cases hi : i ≤ s.length
  · exact h.2.2 i (List.mem_range.mpr (by omega))
  · have : rowsAt s i = rowsAt s s.length := by
      unfold rowsAt; rw [List.take_of_length_le (by omega), List.take_length]
    rw [this]; exact h.2.2 _ (List.mem_range.mpr (by omega))
def shapeB : Rule → List Nat → Bool
  | .rings _, _ => true
  | .turns _, [_, _] => true
  | .quarters _, [_, b] => decide (b ≤ 1)
  | .led _ _ _, [a, _] => decide (a ≤ 1000)
  | .orders _, x => decide (x.length = 4) && x.all fun a => decide (a < 4)
  | .three, [a, _, _] => decide (a < 3)
  | .table, [a, b, c, d] => decide (a < 3) && (decide (b < 3) && (decide (c < 3) && decide (d < 3)))
  | _, _ => false
theorem shapeB_ok {r : Rule} {x : List Nat} (o : okM r = true) (h : shapeB r x = true) : shape r x := by
  unfold shapeB at h
  split at h
  · trivial
  · simp only [okM, Bool.and_eq_true, decide_eq_true_eq] at o
    exact ⟨_, _, rfl, o.1⟩
  · simp only [okM, Bool.and_eq_true, decide_eq_true_eq] at o h
    exact ⟨_, _, rfl, h, o.1⟩
  · simp only [okM, Bool.and_eq_true, decide_eq_true_eq] at o h
    exact ⟨_, _, rfl, o.1, o.2.2.1, o.2.1, h⟩
  · simp only [Bool.and_eq_true, List.all_eq_true, decide_eq_true_eq] at h
    exact h
  · simp only [decide_eq_true_eq] at h
    exact ⟨_, _, _, rfl, h⟩
  · simp only [Bool.and_eq_true, decide_eq_true_eq] at h
    exact ⟨_, _, _, _, rfl, h⟩
  · cases h
/-- that the number T is the table of a rule's group with n members -/
structure Okr (r : Rule) (T n : Nat) : Prop where
  m : okM r = true
  sh : ∀ x ∈ mems r, shape r x
  len : (mems r).length = n
  nodup : (mems r).Nodup
  n32 : n ≤ 32
  n1 : 1 < n
  grp : Grp (unpk T n) n
  tells : ∀ a b, a < n → b < n → (mems r).getD (ent (unpk T n) a b) [] = tms r ((mems r).getD a []) ((mems r).getD b [])
theorem S__law_times {r : Rule} {x y : List Nat} {Q : D → Prop} {E : EX → Prop} (o : okM r = true) (hx : shape r x) (hy : shape r y) (q : Q (encM r (tms r x y))) : P__law_times [ruleD r, encM r x, encM r y] Q E := by
  cases r with
  | rings s =>
    obtain ⟨a, b, c⟩ := okM_rings o
    exact S__law_times_rings ⟨fun x h => (a x h).1, b⟩ q
  | turns n => exact S__law_times_turns hx hy q
  | quarters n =>
    simp only [okM, Bool.and_eq_true, decide_eq_true_eq] at o
    exact S__law_times_quarters o.2 hx hy q
  | led n k r =>
    simp only [okM, Bool.and_eq_true, decide_eq_true_eq] at o
    exact S__law_times_led o.2.2.2.2 hx hy q
  | orders e => exact S__law_times_orders hx hy q
  | three => exact S__law_times_three hx hy q
  | table => exact S__law_times_table hx hy q
theorem S__law_members {r : Rule} {Q : D → Prop} {E : EX → Prop} (o : okM r = true) (q : Q (.lst ((mems r).map (encM r)))) : P__law_members [ruleD r] Q E := by
  have e3 : okM (.rings [3, 3, 3]) = true := by decide +kernel
  have e4 : okM (.rings [3, 3, 3, 3]) = true := by decide +kernel
  have rg : ∀ (sp : SpD) (s : List Nat) (Q' : D → Prop), okM (.rings s) = true → Q' (.lst ((mems (.rings s)).map tupN)) → spBody 14 (T__law_members P__law_wrong sp) [ruleD (.rings s)] Q' E := fun sp s Q' o q => by
    obtain ⟨a, b, c⟩ := okM_rings o
    exact S__law_members_rings sp b c (fun x h => (a x h).2) q
  unfold P__law_members
  cases r with
  | rings s => exact rg _ s Q o q
  | turns n =>
    simp only [okM, Bool.and_eq_true, decide_eq_true_eq] at o
    exact S__law_members_turns _ o.2 q
  | quarters n =>
    simp only [okM, Bool.and_eq_true, decide_eq_true_eq] at o
    exact S__law_members_quarters _ o.2 q
  | led n k r =>
    simp only [okM, Bool.and_eq_true, decide_eq_true_eq] at o
    exact S__law_members_led _ o.2.1 o.2.2.2.1 q
  | orders e => exact S__law_members_orders _ q
  | three => exact S__law_members_three _ (fun Q' q' => rg _ _ Q' e3 q') q
  | table => exact S__law_members_table _ (fun Q' q' => rg _ _ Q' e4 q') q
/-! the table -/
/-- a member as a key -/
def keyM : Rule → List Nat → NestedKey
  | .table, [a, b, c, d] => .tup [.tup [.num a, .num b], .tup [.num c, .num d]]
  | _, x => .tup (x.map fun (i : Nat) => NestedKey.num i)
theorem nkeyL_nat : ∀ x : List Nat, nkeyL (x.map nI) = some (x.map fun (i : Nat) => NestedKey.num i)
  | [] => rfl
  | a :: x => by
    show ((nkey (nI a)).bind fun k => (nkeyL (x.map nI)).map (k :: ·)) = _
    rw [nkeyL_nat x]; rfl
theorem nkey_tupN (x : List Nat) : nkey (tupN x) = some (.tup (x.map fun (i : Nat) => NestedKey.num i)) := by
  show (nkeyL (x.map nI)).map NestedKey.tup = _
  rw [nkeyL_nat]; rfl
theorem nkey_encM (r : Rule) (x : List Nat) : nkey (encM r x) = some (keyM r x) := by
  unfold encM keyM
  split
  · rfl
  · rename_i h
    rw [nkey_tupN]
    all_goals (split
               · exact absurd rfl (h _ _ _ _ rfl)
               · rfl)
theorem num_inj : ∀ {x y : List Nat}, (x.map fun (i : Nat) => NestedKey.num i) = (y.map fun (i : Nat) => NestedKey.num i) → x = y
  | [], [], _ => rfl
  | [], _ :: _, h => by cases h
  | _ :: _, [], h => by cases h
  | a :: x, b :: y, h => by
    simp only [List.map_cons, List.cons.injEq, NestedKey.num.injEq] at h
    rw [num_inj h.2, show a = b by omega]
theorem keyM_inj {r : Rule} {x y : List Nat} (hx : shape r x) (hy : shape r y) (h : keyM r x = keyM r y) : x = y := by
  cases r with
  | table =>
    obtain ⟨a, b, c, d, rfl, _⟩ := hx
    obtain ⟨a', b', c', d', rfl, _⟩ := hy
    simp only [keyM, NestedKey.tup.injEq, List.cons.injEq, NestedKey.num.injEq, and_true] at h
    obtain ⟨⟨h1, h2⟩, h3, h4⟩ := h
    rw [show a = a' by omega, show b = b' by omega, show c = c' by omega, show d = d' by omega]
  | _ => exact num_inj (by simpa [keyM] using h)
theorem depth_nums : ∀ x : List Nat, NestedKey.depthAll (x.map fun (i : Nat) => NestedKey.num i) = 0
  | [] => rfl
  | a :: x => by
    show max (NestedKey.depth (.num a)) (NestedKey.depthAll (x.map fun (i : Nat) => NestedKey.num i)) = 0
    rw [depth_nums x]; rfl
theorem keyM_depth (r : Rule) (x : List Nat) : (keyM r x).depth ≤ 8 := by
  unfold keyM
  split
  · simp [NestedKey.depth, NestedKey.depthAll]
  · simp [NestedKey.depth, depth_nums]
theorem encM_tup (r : Rule) (x : List Nat) : ∃ ds, encM r x = .tup ds := by
  unfold encM
  split
  · exact ⟨_, rfl⟩
  · exact ⟨_, rfl⟩
end KK
set_option Elab.async false
set_option linter.all false
set_option maxRecDepth 100000
namespace KK
open PySem PySem.Spec PyProof.Rows L2 PL GT
local macro_rules | `(tactic| walk_at "dw") => `(tactic| try simp only [dSeq, dPar, dVar, dVarB, dC, cK, dRet, dRetN, dDrop, dNext, dNever, dIf, dTest, bYes, bNot, bAnd, bOr, dAnd, dOr, dNot, dIfE, dChain, dBin, dUn, dArgs, dCall, dFun, dTup, dLst, dAsg, asg, asgs, Option.bind, dOwn, dApp, dExt, dSetIx, dAug, dFr, dOwnV, dAppPop, dMth, isSeq_lst, isSeq_tup, isSeq_tupN, dFor, iSeq_eq, seqK_lst, seqK_tup, seqK_tupN, seqK_tabD, seqD_lst, seqD_tup, seqD_tupN, seqD_tabD, iEnumD, iZip2, iZip3,  iRange1, iRange2, dRgL, dRgT, gR1, gR2, dComp, dZipStar, dRng_nat, rgD_lst, in_tupN, in_lstN, notIn_tupN, count_lstN, fold_tupN, dPut, dGet1, dGet2, dSortItems, wipeE, dFld_eq, fldK_table, fldK_many, fldK_backs, to_ok, to_cond,
  addD, subD, modD, fdivD, mulD, powD, negD, iaddD, ltD, leD, gtD, geD, eqD, neD, PL.intD, absD, sumD, all_lstB, any_lstB, all_true, len_lst, len_tup, len_tupN, len_tabD, List.length_map, List.length_range, list_lst, list_tup, list_tupN, tuple_lst, tuple_tup, tuple_tupN, addDO, mulDO, dOptI, dSl, dSlO, slD, isi_tup_tuple, isi_int_int, isi_int_bool, isi_lst_list, okd_int, okd_bl, okd_non, okd_tupN, okd_lstN, okd_tabD, eqv_int, eqv_tupN, eqv_lstN, eqv_tabD, Bool.and_self, true_and, and_true, Bool.true_and, Bool.and_true, Bool.and_false, Bool.not_true, Bool.not_false, Bool.false_eq_true, if_true, if_false, ite_true, ite_false, reduceIte, Bool.true_eq_false,
  List.map, List.length, List.append, List.replicate, List.cons_append, List.nil_append, Nat.sub_self, List.set, List.getElem?_cons_zero, List.getElem?_cons_succ, spBody, spBodyI, startE, startI, Nat.add_sub_cancel, Nat.reduceAdd, Nat.reduceSub, List.replicate_succ, List.replicate_zero, List.set_cons_zero, List.set_cons_succ])
local macro_rules | `(tactic| walk_at "ds") => `(tactic| try simp only [okS_rings, okS_turns, okS_quarters, okS_led, okS_orders, okS_three, okS_table, eqS_rings_rings, eqS_rings_turns, eqS_rings_quarters, eqS_rings_led, eqS_rings_orders, eqS_rings_three, eqS_rings_table, eqS_turns_rings, eqS_turns_turns, eqS_turns_quarters, eqS_turns_led, eqS_turns_orders, eqS_turns_three, eqS_turns_table, eqS_quarters_rings, eqS_quarters_turns, eqS_quarters_quarters, eqS_quarters_led, eqS_quarters_orders, eqS_quarters_three, eqS_quarters_table, eqS_led_rings, eqS_led_turns, eqS_led_quarters, eqS_led_led, eqS_led_orders, eqS_led_three, eqS_led_table, eqS_orders_rings, eqS_orders_turns, eqS_orders_quarters, eqS_orders_led, eqS_orders_orders, eqS_orders_three, eqS_orders_table, eqS_three_rings, eqS_three_turns, eqS_three_quarters, eqS_three_led, eqS_three_orders, eqS_three_three, eqS_three_table, eqS_table_rings, eqS_table_turns, eqS_table_quarters, eqS_table_led, eqS_table_orders, eqS_table_three, eqS_table_table, Bool.and_self, true_and, Bool.not_true, Bool.not_false, if_true, if_false, Bool.false_eq_true, reduceIte])
local macro_rules | `(tactic| walk_at "di") => `(tactic| try simp only [it_0, it_1, it_2, it_3, itN_0, itN_1, itN_2, itN_3, int_i, ruleD, to_ok])
/-! ### the table of a rule's group -/
theorem tell {r : Rule} {T n : Nat} (O : Okr r T n) {x y : List Nat} (hx : x ∈ mems r) (hy : y ∈ mems r) : ∃ a b, a < n ∧ b < n ∧ (mems r)[a]? = some x ∧ (mems r)[b]? = some y ∧ (mems r)[ent (unpk T n) a b]? = some (tms r x y) := by
  obtain ⟨a, ha⟩ := mem_get hx
  obtain ⟨b, hb⟩ := mem_get hy
  have a1 : a < n := by rw [← O.len]; exact getElem?_lt ha
  have b1 : b < n := by rw [← O.len]; exact getElem?_lt hb
  refine ⟨a, b, a1, b1, ha, hb, ?_⟩
  have := O.tells a b a1 b1
  rw [getD_of ha, getD_of hb] at this
  rw [← this, List.getD_eq_getElem?_getD, List.getElem?_eq_getElem (by rw [O.len]; exact O.grp.toIsTab.lt a1 b1)]; rfl
theorem idx_of {ms : List (List Nat)} (nd : ms.Nodup) {i : Nat} {z : List Nat} (h : ms[i]? = some z) : ms.idxOf z = i := by
  have hi := getElem?_lt h
  rw [List.getElem?_eq_getElem hi] at h
  rw [← Option.some.inj h]
  exact nd.idxOf_getElem _ _
theorem table_eq {r : Rule} {T n : Nat} (O : Okr r T n) : ((mems r).map fun x => (mems r).map fun y => (mems r).idxOf (tms r x y)) = unpk T n := by
  refine List.ext_getElem? fun a => ?_
  by_cases ha : a < n
  · have h1 : (mems r)[a]? = some ((mems r).getD a []) := by
      rw [List.getD_eq_getElem?_getD, List.getElem?_eq_getElem (by rw [O.len]; exact ha)]; rfl
    unfold unpk
    rw [List.getElem?_map, h1, List.getElem?_map, List.getElem?_range ha]
    show some _ = some _
    congr 1
    refine List.ext_getElem? fun b => ?_
    by_cases hb : b < n
    · have h2 : (mems r)[b]? = some ((mems r).getD b []) := by
        rw [List.getD_eq_getElem?_getD, List.getElem?_eq_getElem (by rw [O.len]; exact hb)]; rfl
      rw [List.getElem?_map, h2, List.getElem?_map, List.getElem?_range hb]
      show some _ = some _
      congr 1
      show (mems r).idxOf (tms r ((mems r).getD a []) ((mems r).getD b [])) = entP T a b
      rw [← ent_unpk ha hb]
      refine idx_of O.nodup ?_
      rw [← O.tells a b ha hb, List.getD_eq_getElem?_getD, List.getElem?_eq_getElem (by rw [O.len]; exact O.grp.toIsTab.lt ha hb)]; rfl
    · rw [List.getElem?_eq_none (by rw [List.length_map, O.len]; omega), List.getElem?_eq_none (by simp; omega)]
  · rw [List.getElem?_eq_none (by rw [List.length_map, O.len]; omega), List.getElem?_eq_none (by unfold unpk; simp; omega)]
theorem hasT_enc {r : Rule} {x : List Nat} (hx : shape r x) : ∀ l : List (List Nat × Nat), (∀ p ∈ l, shape r p.1) → x ∉ l.map (·.1) → hasT (keyM r x) (l.map fun (p : List Nat × Nat) => encM r p.1) = false
  | [], _, _ => rfl
  | p :: l, h, hn => by
    show (decide (nkey (encM r p.1) = some (keyM r x)) || hasT (keyM r x) (l.map fun (p : List Nat × Nat) => encM r p.1)) = false
    rw [hasT_enc hx l (fun q hq => h q (List.mem_cons_of_mem _ hq)) (fun q => hn (List.mem_cons_of_mem _ q)), nkey_encM, Bool.or_false]
    refine decide_eq_false fun e => hn ?_
    rw [← keyM_inj (h p List.mem_cons_self) hx (Option.some.inj e)]
    exact List.mem_cons_self
theorem mrg_enc {r : Rule} : ∀ (l done : List (List Nat × Nat)), (∀ p ∈ done ++ l, shape r p.1) → ((done ++ l).map (·.1)).Nodup →
    mrgT (l.map fun (p : List Nat × Nat) => (encM r p.1, nI p.2)) (done.map fun (p : List Nat × Nat) => encM r p.1) (done.map fun (p : List Nat × Nat) => nI p.2) = .tdc ((done ++ l).map fun (p : List Nat × Nat) => encM r p.1) ((done ++ l).map fun (p : List Nat × Nat) => nI p.2)
  | [], done, _, _ => by rw [List.append_nil]; rfl
  | p :: l, done, h, nd => by
    have hp := h p (by simp)
    have hn : p.1 ∉ done.map (·.1) := fun q => by
      rw [List.map_append, List.nodup_append] at nd
      exact nd.2.2 _ q p.1 (by simp) rfl
    show (match nkey (encM r p.1) with
      | some q => if hasT q (done.map fun (p : List Nat × Nat) => encM r p.1) = true then mrgT (l.map fun (p : List Nat × Nat) => (encM r p.1, nI p.2)) (done.map fun (p : List Nat × Nat) => encM r p.1) (putT q (nI p.2) (done.map fun (p : List Nat × Nat) => encM r p.1) (done.map fun (p : List Nat × Nat) => nI p.2)) else mrgT (l.map fun (p : List Nat × Nat) => (encM r p.1, nI p.2)) ((done.map fun (p : List Nat × Nat) => encM r p.1) ++ [encM r p.1]) ((done.map fun (p : List Nat × Nat) => nI p.2) ++ [nI p.2])
      | none => .non) = _
    rw [nkey_encM]
    simp only [hasT_enc hp done (fun q hq => h q (List.mem_append_left _ hq)) hn, Bool.false_eq_true, if_false]
    have e1 : (done.map fun (p : List Nat × Nat) => encM r p.1) ++ [encM r p.1] = (done ++ [p]).map fun (p : List Nat × Nat) => encM r p.1 := by rw [List.map_append]; rfl
    have e2 : (done.map fun (p : List Nat × Nat) => nI p.2) ++ [nI p.2] = (done ++ [p]).map fun (p : List Nat × Nat) => nI p.2 := by rw [List.map_append]; rfl
    have e3 : done ++ p :: l = (done ++ [p]) ++ l := by rw [List.append_assoc]; rfl
    rw [e1, e2, e3]
    rw [e3] at h nd
    exact mrg_enc l (done ++ [p]) h nd
theorem look_enc {r : Rule} {z : List Nat} {i : Nat} (hz : shape r z) : ∀ l : List (List Nat × Nat), (∀ p ∈ l, shape r p.1) → (l.map (·.1)).Nodup → (z, i) ∈ l → lookT (keyM r z) (l.map fun (p : List Nat × Nat) => encM r p.1) (l.map fun (p : List Nat × Nat) => nI p.2) = some (nI i)
  | [], _, _, h => by cases h
  | p :: l, h, nd, hm => by
    show (if nkey (encM r p.1) = some (keyM r z) then some (nI p.2) else lookT (keyM r z) (l.map fun (p : List Nat × Nat) => encM r p.1) (l.map fun (p : List Nat × Nat) => nI p.2)) = _
    rw [nkey_encM]
    rw [List.map_cons, List.nodup_cons] at nd
    rcases List.mem_cons.mp hm with e | hm
    · subst e
      rw [if_pos rfl]
    · have : ¬ (some (keyM r p.1) = some (keyM r z)) := fun e => nd.1 (by
        have := keyM_inj (h p List.mem_cons_self) hz (Option.some.inj e)
        rw [this]
        exact List.mem_map.mpr ⟨(z, i), hm, rfl⟩)
      rw [if_neg this]
      exact look_enc hz l (fun q hq => h q (List.mem_cons_of_mem _ hq)) nd.2 hm
theorem pairs_enc (r : Rule) : ∀ l : List (List Nat × Nat), pairsOf (l.map fun (p : List Nat × Nat) => D.tup [encM r p.1, nI p.2]) = some (l.map fun (p : List Nat × Nat) => (encM r p.1, nI p.2))
  | [] => rfl
  | p :: l => by
    show (pairsOf (l.map fun (p : List Nat × Nat) => D.tup [encM r p.1, nI p.2])).map ((encM r p.1, nI p.2) :: ·) = _
    rw [pairs_enc r l]; rfl
theorem okKey_enc (r : Rule) (x : List Nat) : okKey (encM r x) = true := by
  unfold okKey
  rw [nkey_encM]
  obtain ⟨ds, e⟩ := encM_tup r x
  rw [e]
  show (true && decide ((keyM r x).depth ≤ 8)) = true
  rw [decide_eq_true (keyM_depth r x)]; rfl
theorem S__law_table {r : Rule} {T n : Nat} {Q : D → Prop} {E : EX → Prop} (O : Okr r T n) (q : Q (tabD (unpk T n))) : P__law_table [ruleD r] Q E := by
  unfold P__law_table T__law_table
  walk_at "dw"
  refine S__law_members O.m ?_
  walk_at "dw"
  have hl := O.len
  have h32 := O.n32
  have zs : ∀ p ∈ (mems r).zipIdx, shape r p.1 := fun p hp => O.sh _ (by
    obtain ⟨x, i⟩ := p
    have := List.mem_zipIdx_iff_getElem?.mp hp
    exact List.mem_of_getElem? this)
  have zn : ((mems r).zipIdx.map (·.1)).Nodup := by
    have : (mems r).zipIdx.map (·.1) = mems r := by
      refine List.ext_getElem? fun i => ?_
      rw [List.getElem?_map, List.getElem?_zipIdx]
      cases (mems r)[i]? <;> rfl
    rw [this]; exact O.nodup
  rw [enum_map]
  refine ⟨by rw [List.length_map, List.length_zipIdx]; omega, compE (mems r).zipIdx _ id (fun (p : List Nat × Nat) => D.tup [encM r p.1, nI p.2]) (fun p hp => ⟨_, rfl, fun R hR => ?_⟩) ?_⟩
  · walk_at "dw"
    exact hR
  · have e1 : dictTD [.lst (((mems r).zipIdx.map id).map fun (p : List Nat × Nat) => D.tup [encM r p.1, nI p.2])] = .cond ((((mems r).zipIdx.map fun (p : List Nat × Nat) => (encM r p.1, nI p.2)).all fun p => okKey p.1) = true) (.tdc ((mems r).zipIdx.map fun (p : List Nat × Nat) => encM r p.1) ((mems r).zipIdx.map fun (p : List Nat × Nat) => nI p.2)) := by
      rw [List.map_id]
      show (match pairsOf ((mems r).zipIdx.map fun (p : List Nat × Nat) => D.tup [encM r p.1, nI p.2]) with | some ps => Ret.cond ((ps.all fun p => okKey p.1) = true) (mrgT ps [] []) | none => .no) = _
      rw [pairs_enc]
      show Ret.cond _ _ = Ret.cond _ _
      congr 1
      exact mrg_enc (mems r).zipIdx [] zs zn
    rw [e1]
    refine ⟨?_, ?_⟩
    · rw [List.all_map, List.all_eq_true]
      intro p _
      exact okKey_enc r p.1
    · walk_at "dw"
      refine ⟨by omega, compE (mems r) (encM r) (fun x => (mems r).map fun y => (mems r).idxOf (tms r x y)) tupN (fun x hx => ⟨_, rfl, fun R hR => ?_⟩) ?_⟩
      · walk_at "dw"
        refine ⟨by omega, compE (mems r) (encM r) (fun y => (mems r).idxOf (tms r x y)) nI (fun y hy => ⟨_, rfl, fun R' hR' => ?_⟩) ?_⟩
        · walk_at "dw"
          refine S__law_times O.m (O.sh x hx) (O.sh y hy) ?_
          obtain ⟨a, b, a1, b1, ha, hb, hz⟩ := tell O hx hy
          have hi := idx_of O.nodup hz
          have hm : (tms r x y, ent (unpk T n) a b) ∈ (mems r).zipIdx := List.mem_zipIdx_iff_getElem?.mpr hz
          obtain ⟨ds, e⟩ := encM_tup r (tms r x y)
          have e2 : itD (.tdc ((mems r).zipIdx.map fun (p : List Nat × Nat) => encM r p.1) ((mems r).zipIdx.map fun (p : List Nat × Nat) => nI p.2)) (encM r (tms r x y)) = .cond ((keyM r (tms r x y)).depth ≤ 8) (nI (ent (unpk T n) a b)) := by
            have hk := nkey_encM r (tms r x y)
            rw [e] at hk ⊢
            show (match nkey (.tup ds) with | some q => (match lookT q _ _ with | some z => Ret.cond (q.depth ≤ 8) z | none => .no) | none => .no) = _
            rw [hk]
            have lk := look_enc (O.sh _ (List.mem_of_getElem? hz)) (mems r).zipIdx zs zn hm
            simp only [lk]
          rw [e2]
          refine ⟨keyM_depth _ _, ?_⟩
          rw [← hi]; exact hR'
        · walk_at "dw"
          exact hR
      · walk_at "dw"
        rw [table_eq O]
        exact q
end KK
set_option Elab.async false
set_option linter.all false
set_option maxRecDepth 100000
namespace KK
open PySem PySem.Spec PyProof.Rows L2 PL GT
local macro_rules | `(tactic| walk_at "dw") => `(tactic| try simp only [dSeq, dPar, dVar, dVarB, dC, cK, dRet, dRetN, dDrop, dNext, dNever, dIf, dTest, bYes, bNot, bAnd, bOr, dAnd, dOr, dNot, dIfE, dChain, dBin, dUn, dArgs, dCall, dFun, dTup, dLst, dAsg, asg, asgs, Option.bind, dOwn, dApp, dExt, dSetIx, dAug, dFr, dOwnV, dAppPop, dMth, isSeq_lst, isSeq_tup, isSeq_tupN, dFor, iSeq_eq, seqK_lst, seqK_tup, seqK_tupN, seqK_tabD, seqD_lst, seqD_tup, seqD_tupN, seqD_tabD, iEnumD, iZip2, iZip3,  iRange1, iRange2, dRgL, dRgT, gR1, gR2, dComp, dZipStar, dRng_nat, rgD_lst, in_tupN, in_lstN, notIn_tupN, count_lstN, fold_tupN, dPut, dGet1, dGet2, dSortItems, wipeE, dFld_eq, fldK_table, fldK_many, fldK_backs, to_ok, to_cond,
  addD, subD, modD, fdivD, mulD, powD, negD, iaddD, ltD, leD, gtD, geD, eqD, neD, PL.intD, absD, sumD, all_lstB, any_lstB, all_true, len_lst, len_tup, len_tupN, len_tabD, List.length_map, List.length_range, list_lst, list_tup, list_tupN, tuple_lst, tuple_tup, tuple_tupN, addDO, mulDO, dOptI, dSl, dSlO, slD, isi_tup_tuple, isi_int_int, isi_int_bool, isi_lst_list, okd_int, okd_bl, okd_non, okd_tupN, okd_lstN, okd_tabD, eqv_int, eqv_tupN, eqv_lstN, eqv_tabD, Bool.and_self, true_and, and_true, Bool.true_and, Bool.and_true, Bool.and_false, Bool.not_true, Bool.not_false, Bool.false_eq_true, if_true, if_false, ite_true, ite_false, reduceIte, Bool.true_eq_false,
  List.map, List.length, List.append, List.replicate, List.cons_append, List.nil_append, Nat.sub_self, List.set, List.getElem?_cons_zero, List.getElem?_cons_succ, spBody, spBodyI, startE, startI, Nat.add_sub_cancel, Nat.reduceAdd, Nat.reduceSub, List.replicate_succ, List.replicate_zero, List.set_cons_zero, List.set_cons_succ])
local macro_rules | `(tactic| walk_at "ds") => `(tactic| try simp only [okS_rings, okS_turns, okS_quarters, okS_led, okS_orders, okS_three, okS_table, eqS_rings_rings, eqS_rings_turns, eqS_rings_quarters, eqS_rings_led, eqS_rings_orders, eqS_rings_three, eqS_rings_table, eqS_turns_rings, eqS_turns_turns, eqS_turns_quarters, eqS_turns_led, eqS_turns_orders, eqS_turns_three, eqS_turns_table, eqS_quarters_rings, eqS_quarters_turns, eqS_quarters_quarters, eqS_quarters_led, eqS_quarters_orders, eqS_quarters_three, eqS_quarters_table, eqS_led_rings, eqS_led_turns, eqS_led_quarters, eqS_led_led, eqS_led_orders, eqS_led_three, eqS_led_table, eqS_orders_rings, eqS_orders_turns, eqS_orders_quarters, eqS_orders_led, eqS_orders_orders, eqS_orders_three, eqS_orders_table, eqS_three_rings, eqS_three_turns, eqS_three_quarters, eqS_three_led, eqS_three_orders, eqS_three_three, eqS_three_table, eqS_table_rings, eqS_table_turns, eqS_table_quarters, eqS_table_led, eqS_table_orders, eqS_table_three, eqS_table_table, Bool.and_self, true_and, Bool.not_true, Bool.not_false, if_true, if_false, Bool.false_eq_true, reduceIte])
local macro_rules | `(tactic| walk_at "di") => `(tactic| try simp only [it_0, it_1, it_2, it_3, itN_0, itN_1, itN_2, itN_3, int_i, ruleD, to_ok])
/-! ### the drawn rules -/
def twosL : List (Nat × Nat) := [(8, 3), (8, 5), (8, 7), (9, 8), (11, 10), (13, 12), (15, 4), (15, 11), (15, 14), (16, 7), (16, 9), (16, 15)]
def fixedRules : List Rule := [.orders 0, .orders 1, .three, .table, .led 5 4 2, .led 7 3 2] ++ twosL.map (fun p => .led p.1 2 p.2) ++ [.led 9 3 4, .led 9 3 7, .led 3 4 2]
def sizesL : List (List Nat) := [[2, 2, 2, 2], [3, 3, 3], [2, 4, 4], [2, 2, 2, 2, 2], [2, 3, 5], [4, 8], [5, 5], [3, 9], [2, 12], [4, 2, 3]]
def turnRules : List Rule := (List.range 12).map fun k => .turns (5 + k)
def quarterRules : List Rule := (List.range 6).map fun k => .quarters (3 + k)
def sizeRules : List Rule := sizesL.map .rings
def ringRules : List Rule := (List.range 24).map fun k => .rings [9 + k]
def rulesAll : List Rule := fixedRules ++ (turnRules ++ (quarterRules ++ (sizeRules ++ ringRules)))
theorem seq_lst {i : Nat} {ts : List DT} {u : DS} {N : Nds} {ρ : DEnv} (ds : List D) (h : ∀ (Q : List D → Prop) (E : EX → Prop), dArgs ts ρ Q E = Q ds) (q : u N (ρ.set i (some (.val (.lst ds))))) : dSeq (dAsg (.name i) (dLst ts)) u N ρ := by
  show dArgs ts ρ _ _
  rw [h]; exact q
theorem seq_own {i : Nat} {ts : List DT} {u : DS} {N : Nds} {ρ : DEnv} (ds : List D) (h : ∀ (Q : List D → Prop) (E : EX → Prop), dArgs ts ρ Q E = Q ds) (q : u N (ρ.set i (some (.own (.lst ds))))) : dSeq (dOwn i (dLst ts)) u N ρ := by
  show dArgs ts ρ _ _
  rw [h]; exact q
theorem seq_val {i : Nat} {t : DT} {u : DS} {N : Nds} {ρ : DEnv} (d : D) (h : ∀ K : D → Prop, K d → t ρ K N.ex) (q : u N (ρ.set i (some (.val d)))) : dSeq (dAsg (.name i) t) u N ρ := h (fun d => match asg (.name i) d ρ with | some ρ' => u N ρ' | none => False) q
def fixed0 : List Rule := [.orders 0, .orders 1, .three, .table, .led 5 4 2, .led 7 3 2]
def twos0 : List (Nat × Nat) := [(8, 3), (8, 5), (8, 7), (9, 8), (11, 10), (13, 12), (15, 4), (15, 11), (15, 14), (16, 7), (16, 9)]
def twoD (p : Nat × Nat) : D := .tup [nI p.1, nI p.2]
def fixed1 : List Rule := [.led 9 3 4, .led 9 3 7, .led 3 4 2]
def sizes0 : List (List Nat) := [[2, 2, 2, 2], [3, 3, 3], [2, 4, 4], [2, 2, 2, 2, 2], [2, 3, 5], [4, 8], [5, 5], [3, 9], [2, 12]]
theorem S__law_rule {Q : D → Prop} {E : EX → Prop} (q : ∀ r ∈ rulesAll, Q (ruleD r)) : P__law_rule [.hand] Q E := by
  unfold P__law_rule T__law_rule spBody startE
  refine seq_lst (fixed0.map ruleD) (fun _ _ => rfl) ?_
  refine seq_lst (twos0.map twoD) (fun _ _ => rfl) ?_
  have ev : ((List.set (List.map (fun d => some (C.val d)) [D.hand] ++ List.replicate (7 - [D.hand].length) none) 1 (some (C.val (D.lst (List.map ruleD fixed0))))).set 2 (some (C.val (D.lst (List.map twoD twos0))))) = [some (.val .hand), some (.val (.lst (fixed0.map ruleD))), some (.val (.lst (twos0.map twoD))), none, none, none, none] := rfl
  rw [ev]
  have h1 : ∀ (K : D → Prop), K (.lst ((fixed0 ++ (twos0 ++ [(16, 15)]).map fun (p : Nat × Nat) => Rule.led p.1 2 p.2).map ruleD)) → (dBin addD (dVarB 1) (dComp (iSeq (dBin addD (dVarB 2) (dLst [(dTup [(dC (.int 16)), (dC (.int 15))])]))) (.tup [(.name 3), (.name 4)]) bYes (dTup [(dC (.str "led")), (dVar 3), (dC (.int 2)), (dVar 4)]) [3, 4])) [some (.val .hand), some (.val (.lst (fixed0.map ruleD))), some (.val (.lst (twos0.map twoD))), none, none, none, none] K E := by
    intro K hK
    have e1 : twos0.map twoD ++ [D.tup [.int 16, .int 15]] = (twos0 ++ [(16, 15)]).map twoD := rfl
    walk_at "dw"
    refine ⟨by decide +kernel, ?_⟩
    rw [e1]
    refine ⟨by decide +kernel, compE (twos0 ++ [(16, 15)]) twoD (fun p => Rule.led p.1 2 p.2) ruleD (fun p _ => ⟨_, rfl, fun R hR => ?_⟩) ?_⟩
    · walk_at "dw"
      exact hR
    · walk_at "dw"
      refine ⟨by decide +kernel, ?_⟩
      rw [← List.map_append]; exact hK
  refine seq_val _ h1 ?_
  have h2 : ∀ (K : D → Prop) (x2 : Option C), K (.lst (fixedRules.map ruleD)) → (dBin addD (dVarB 1) (dLst [(dTup [(dC (.str "led")), (dC (.int 9)), (dC (.int 3)), (dC (.int 4))]), (dTup [(dC (.str "led")), (dC (.int 9)), (dC (.int 3)), (dC (.int 7))]), (dTup [(dC (.str "led")), (dC (.int 3)), (dC (.int 4)), (dC (.int 2))])])) [some (.val .hand), some (.val (.lst ((fixed0 ++ (twos0 ++ [(16, 15)]).map fun (p : Nat × Nat) => Rule.led p.1 2 p.2).map ruleD))), x2, none, none, none, none] K E := by
    intro K x2 hK
    show (addD (.lst ((fixed0 ++ (twos0 ++ [(16, 15)]).map fun (p : Nat × Nat) => Rule.led p.1 2 p.2).map ruleD)) (.lst (fixed1.map ruleD))).to K
    refine ⟨by decide +kernel, ?_⟩
    rw [← List.map_append]; exact hK
  refine seq_val _ (fun K => h2 K _) ?_
  refine seq_own (sizes0.map tupN) (fun _ _ => rfl) ?_
  show _ ∧ _
  refine ⟨by decide +kernel, ?_⟩
  have e3 : (sizes0.map tupN ++ [D.tup [.int 4, .int 2, .int 3]]) = sizesL.map tupN := rfl
  have tail : ∀ (L : List D) (x2 : Option C), L = fixedRules.map ruleD → (dSeq
 (dAsg (.name 6) (dFun spDraw [(dVar 0), (dC (.int 5))]))
 (dSeq
 (dIf (dTest (dBin eqD (dVarB 6) (dC (.int 0))))
 (dRet (dTup [(dC (.str "turns")), (dBin addD (dC (.int 5)) (dFun spDraw [(dVar 0), (dC (.int 12))]))]))
 dNext)
 (dSeq
 (dIf (dTest (dBin eqD (dVarB 6) (dC (.int 1))))
 (dRet (dTup [(dC (.str "quarters")), (dBin addD (dC (.int 3)) (dFun spDraw [(dVar 0), (dC (.int 6))]))]))
 dNext)
 (dSeq
 (dIf (dTest (dBin eqD (dVarB 6) (dC (.int 2))))
 (dRet (dTup [(dC (.str "rings")), (dFun P__law_any [(dVar 0), (dBin addD (dVarB 5) (dLst [(dTup [(dBin addD (dC (.int 9)) (dFun spDraw [(dVar 0), (dC (.int 24))]))])]))])]))
 dNext)
 (dRet (dFun P__law_any [(dVar 0), (dVar 1)])))))) { nx := fun x => Q D.non, rt := Q, ex := E } [some (.val .hand), some (.val (.lst L)), x2, none, none, some (.own (.lst (sizesL.map tupN))), none] := by
    intro L x2 hL
    walk_at "dw"
    refine ⟨5, rfl, by decide, by decide, fun k k0 k1 => ?_⟩
    obtain ⟨w, rfl⟩ : ∃ w : Nat, k = w := ⟨k.toNat, by omega⟩
    have hw : w < 5 := by omega
    walk_at "dw"
    by_cases w0 : w = 0
    · refine ifT (by simp [w0]) ⟨12, rfl, by decide, by decide, fun k k0 k1 => ?_⟩
      obtain ⟨j, rfl⟩ : ∃ j : Nat, k = j := ⟨k.toNat, by omega⟩
      walk_at "dw"
      have e : (5 : Int) + (j : Int) = ((5 + j : Nat) : Int) := by omega
      rw [e]
      exact q (.turns (5 + j)) (List.mem_append_right _ (List.mem_append_left _ (List.mem_map.mpr ⟨j, List.mem_range.mpr (by omega), rfl⟩)))
    · refine ifF (by simp [w0]) ?_
      by_cases w1 : w = 1
      · refine ifT (by simp [w1]) ⟨6, rfl, by decide, by decide, fun k k0 k1 => ?_⟩
        obtain ⟨j, rfl⟩ : ∃ j : Nat, k = j := ⟨k.toNat, by omega⟩
        walk_at "dw"
        have e : (3 : Int) + (j : Int) = ((3 + j : Nat) : Int) := by omega
        rw [e]
        exact q (.quarters (3 + j)) (List.mem_append_right _ (List.mem_append_right _ (List.mem_append_left _ (List.mem_map.mpr ⟨j, List.mem_range.mpr (by omega), rfl⟩))))
      · refine ifF (by simp; omega) ?_
        by_cases w2 : w = 2
        · refine ifT (by simp [w2]) ⟨24, rfl, by decide, by decide, fun k k0 k1 => ?_⟩
          obtain ⟨j, rfl⟩ : ∃ j : Nat, k = j := ⟨k.toNat, by omega⟩
          walk_at "dw"
          have e : (9 : Int) + (j : Int) = ((9 + j : Nat) : Int) := by omega
          rw [e]
          refine ⟨by decide +kernel, S__law_any (by rw [List.length_append, List.length_map]; show 0 < sizesL.length + 1; decide) (by rw [List.length_append, List.length_map]; show sizesL.length + 1 < 1000; decide) fun d hd => ?_⟩
          rcases List.mem_append.mp hd with hd | hd
          · obtain ⟨s, hs, rfl⟩ := List.mem_map.mp hd
            exact q (.rings s) (List.mem_append_right _ (List.mem_append_right _ (List.mem_append_right _ (List.mem_append_left _ (List.mem_map.mpr ⟨s, hs, rfl⟩)))))
          · rw [List.mem_singleton] at hd
            subst hd
            exact q (.rings [9 + j]) (List.mem_append_right _ (List.mem_append_right _ (List.mem_append_right _ (List.mem_append_right _ (List.mem_map.mpr ⟨j, List.mem_range.mpr (by omega), rfl⟩)))))
        · refine ifF (by simp; omega) ?_
          refine S__law_any (by rw [hL]; decide +kernel) (by rw [hL]; decide +kernel) fun d hd => ?_
          rw [hL] at hd
          obtain ⟨r, hr, rfl⟩ := List.mem_map.mp hd
          exact q r (List.mem_append_left _ hr)
  exact tail _ _ rfl
end KK
set_option Elab.async false
set_option linter.all false
set_option maxRecDepth 100000
namespace KK
open PySem PySem.Spec PyProof.Rows L2 PL GT
local macro_rules | `(tactic| walk_at "dw") => `(tactic| try simp only [dSeq, dPar, dVar, dVarB, dC, cK, dRet, dRetN, dDrop, dNext, dNever, dIf, dTest, bYes, bNot, bAnd, bOr, dAnd, dOr, dNot, dIfE, dChain, dBin, dUn, dArgs, dCall, dFun, dTup, dLst, dAsg, asg, asgs, Option.bind, dOwn, dApp, dExt, dSetIx, dAug, dFr, dOwnV, dAppPop, dMth, isSeq_lst, isSeq_tup, isSeq_tupN, dFor, iSeq_eq, seqK_lst, seqK_tup, seqK_tupN, seqK_tabD, seqD_lst, seqD_tup, seqD_tupN, seqD_tabD, iEnumD, iZip2, iZip3,  iRange1, iRange2, dRgL, dRgT, gR1, gR2, dComp, dZipStar, dRng_nat, rgD_lst, in_tupN, in_lstN, notIn_tupN, count_lstN, fold_tupN, dPut, dGet1, dGet2, dSortItems, wipeE, dFld_eq, fldK_table, fldK_many, fldK_backs, to_ok, to_cond,
  addD, subD, modD, fdivD, mulD, powD, negD, iaddD, ltD, leD, gtD, geD, eqD, neD, PL.intD, absD, sumD, all_lstB, any_lstB, all_true, len_lst, len_tup, len_tupN, len_tabD, List.length_map, List.length_range, list_lst, list_tup, list_tupN, tuple_lst, tuple_tup, tuple_tupN, addDO, mulDO, dOptI, dSl, dSlO, slD, isi_tup_tuple, isi_int_int, isi_int_bool, isi_lst_list, okd_int, okd_bl, okd_non, okd_tupN, okd_lstN, okd_tabD, eqv_int, eqv_tupN, eqv_lstN, eqv_tabD, Bool.and_self, true_and, and_true, Bool.true_and, Bool.and_true, Bool.and_false, Bool.not_true, Bool.not_false, Bool.false_eq_true, if_true, if_false, ite_true, ite_false, reduceIte, Bool.true_eq_false,
  List.map, List.length, List.append, List.replicate, List.cons_append, List.nil_append, Nat.sub_self, List.set, List.getElem?_cons_zero, List.getElem?_cons_succ, spBody, spBodyI, startE, startI, Nat.add_sub_cancel, Nat.reduceAdd, Nat.reduceSub, List.replicate_succ, List.replicate_zero, List.set_cons_zero, List.set_cons_succ])
local macro_rules | `(tactic| walk_at "ds") => `(tactic| try simp only [okS_rings, okS_turns, okS_quarters, okS_led, okS_orders, okS_three, okS_table, eqS_rings_rings, eqS_rings_turns, eqS_rings_quarters, eqS_rings_led, eqS_rings_orders, eqS_rings_three, eqS_rings_table, eqS_turns_rings, eqS_turns_turns, eqS_turns_quarters, eqS_turns_led, eqS_turns_orders, eqS_turns_three, eqS_turns_table, eqS_quarters_rings, eqS_quarters_turns, eqS_quarters_quarters, eqS_quarters_led, eqS_quarters_orders, eqS_quarters_three, eqS_quarters_table, eqS_led_rings, eqS_led_turns, eqS_led_quarters, eqS_led_led, eqS_led_orders, eqS_led_three, eqS_led_table, eqS_orders_rings, eqS_orders_turns, eqS_orders_quarters, eqS_orders_led, eqS_orders_orders, eqS_orders_three, eqS_orders_table, eqS_three_rings, eqS_three_turns, eqS_three_quarters, eqS_three_led, eqS_three_orders, eqS_three_three, eqS_three_table, eqS_table_rings, eqS_table_turns, eqS_table_quarters, eqS_table_led, eqS_table_orders, eqS_table_three, eqS_table_table, Bool.and_self, true_and, Bool.not_true, Bool.not_false, if_true, if_false, Bool.false_eq_true, reduceIte])
local macro_rules | `(tactic| walk_at "di") => `(tactic| try simp only [it_0, it_1, it_2, it_3, itN_0, itN_1, itN_2, itN_3, int_i, ruleD, to_ok])
/-! ### what is told of a rule (k03) -/
def coprB (s : List Nat) : Bool := (List.range s.length).all fun i => (s.drop (i + 1)).all fun y => decide (Nat.gcd (s.getD i 0) y ≤ 1)
def isPlain : Rule → Bool × Bool
  | .turns n => (decide (n < 3), decide (n = 1))
  | .rings s => (true, coprB s)
  | _ => (false, false)
theorem S__law_is_plain {r : Rule} {Q : D → Prop} {E : EX → Prop} (hs : ∀ s, r = .rings s → s.length ≤ 1000) (q : Q (.tup [.bl (isPlain r).1, .bl (isPlain r).2])) : P__law_is_plain [ruleD r] Q E := by
  unfold P__law_is_plain T__law_is_plain
  cases r with
  | turns n =>
    walk_at "dw"
    walk_at "di"
    walk_at "dw"
    walk_at "ds"
    walk_at "di"
    walk_at "dw"
    have e1 : decide ((n : Int) < 3) = decide (n < 3) := decide_eq_decide.mpr (by omega)
    have e2 : decide ((n : Int) = 1) = decide (n = 1) := decide_eq_decide.mpr (by omega)
    rw [e1, e2]
    exact q
  | rings s =>
    walk_at "dw"
    walk_at "di"
    walk_at "dw"
    walk_at "ds"
    walk_at "di"
    walk_at "dw"
    have hl := hs s rfl
    -- no place holds where a pair with a common divisor stands
    have bad : ∀ i j y, s[i]? = some y → ∀ z, (s.drop (i + 1))[j]? = some z → 1 < Nat.gcd y z → coprB s = false := fun i j y hy z hz hg => by
      refine Bool.eq_false_iff.mpr fun h => ?_
      unfold coprB at h
      have h1 := List.all_eq_true.mp h i (List.mem_range.mpr (getElem?_lt hy))
      have h2 := List.all_eq_true.mp h1 z (List.mem_of_getElem? hz)
      rw [getD_of hy, decide_eq_true_eq] at h2
      omega
    have good : (∀ i, i < s.length → ∀ j, j < (s.drop (i + 1)).length → Nat.gcd (s.getD i 0) ((s.drop (i + 1)).getD j 0) ≤ 1) → coprB s = true := fun h => by
      unfold coprB
      refine List.all_eq_true.mpr fun i hi => List.all_eq_true.mpr fun z hz => ?_
      obtain ⟨j, hj⟩ := mem_get hz
      have := h i (List.mem_range.mp hi) j (getElem?_lt hj)
      rw [getD_of hj] at this
      exact decide_eq_true this
    refine forI (enumL (s.map nI)) (fun i ρ => (∀ i', i' < i → ∀ j, j < (s.drop (i' + 1)).length → Nat.gcd (s.getD i' 0) ((s.drop (i' + 1)).getD j 0) ≤ 1) ∧ ∃ a b c d e, ρ = [some (.val (.tup [.str "rings", tupN s])), a, b, c, d, e]) ⟨fun i' h => absurd h (Nat.not_lt_zero _), none, none, none, none, none, Eq.refl _⟩ ?_ ?_
    · rintro i d ρ hd ⟨hi, a, b, c, d', e, rfl⟩
      obtain ⟨y, hy, rfl⟩ := enum_get hd
      refine ⟨_, rfl, fun R hR => ?_⟩
      walk_at "dw"
      walk_at "di"
      walk_at "dw"
      show (Ret.ok (.tup (PL.cutD (s.map nI) (some ((i : Int) + 1)) none))).to _
      rw [show ((i : Int) + 1) = ((i + 1 : Nat) : Int) by omega, cut_from, ← List.map_drop]
      walk_at "dw"
      refine forI ((s.drop (i + 1)).map nI) (fun j ρ => (∀ j', j' < j → Nat.gcd y ((s.drop (i + 1)).getD j' 0) ≤ 1) ∧ ∃ c d e, ρ = [some (.val (.tup [.str "rings", tupN s])), some (.val (nI i)), some (.val (nI y)), c, d, e]) ⟨fun j' h => absurd h (Nat.not_lt_zero _), c, d', e, Eq.refl _⟩ ?_ ?_
      · rintro j dd ρ hdd ⟨hj, c, d', e, rfl⟩
        obtain ⟨z, hz, rfl⟩ := map_get hdd
        refine ⟨_, rfl, fun R' hR' => ?_⟩
        walk_at "dw"
        refine whileM (α := Nat × Nat) (fun p ρ => Nat.gcd p.1 p.2 = Nat.gcd y z ∧ ρ = [some (.val (.tup [.str "rings", tupN s])), some (.val (nI i)), some (.val (nI y)), some (.val (nI z)), some (.val (nI p.1)), some (.val (nI p.2))]) (fun p => p.2) (y, z) ⟨rfl, Eq.refl _⟩ ?_
        rintro ⟨u, v⟩ ρ ⟨hg, rfl⟩ R2 hR2
        walk_at "dw"
        by_cases h : v = 0
        · subst h
          refine ifF (by simp) ?_
          have hg : u = Nat.gcd y z := by rw [← hg]; exact (Nat.gcd_zero_right u).symm
          by_cases h1 : 1 < u
          · refine ifT (by simp; omega) ?_
            have hb := bad i j y hy z hz (by omega)
            have q' : Q (.tup [.bl true, .bl false]) := by
              have := q
              simp only [isPlain, hb] at this
              exact this
            exact q'
          · refine ifF (by simp; omega) ?_
            refine hR' _ ⟨fun j' hj' => ?_, _, _, _, Eq.refl _⟩
            by_cases hjj : j' = j
            · subst hjj
              rw [getD_of hz]; omega
            · exact hj j' (by omega)
        · refine ifT (by simp; omega) ⟨by omega, hR2 (v, u % v) _ ⟨?_, Eq.refl _⟩ (Nat.mod_lt _ (by omega))⟩
          show Nat.gcd v (u % v) = _
          rw [← hg, Nat.gcd_comm, ← Nat.gcd_rec, Nat.gcd_comm]
      · rintro ρ ⟨hj, c, d', e, rfl⟩
        rw [len_map] at hj
        refine hR _ ⟨fun i' hi' j' hj' => ?_, _, _, _, _, _, Eq.refl _⟩
        by_cases hii : i' = i
        · subst hii
          rw [getD_of hy]
          exact hj j' hj'
        · exact hi i' (by omega) j' hj'
    · rintro ρ ⟨hi, a, b, c, d, e, rfl⟩
      rw [enum_len, len_map] at hi
      walk_at "dw"
      have q' := q
      simp only [isPlain, good hi] at q'
      exact q'
  | _ =>
    walk_at "dw"
    walk_at "di"
    walk_at "dw"
    walk_at "ds"
    walk_at "di"
    walk_at "dw"
    walk_at "ds"
    walk_at "dw"
    exact q
end KK
set_option Elab.async false
set_option linter.all false
set_option maxRecDepth 100000
set_option maxHeartbeats 2000000
namespace KK
open PySem PySem.Spec PyProof.Rows L2 PL GT
local macro_rules | `(tactic| walk_at "dw") => `(tactic| try simp only [dSeq, dPar, dVar, dVarB, dC, cK, dRet, dRetN, dDrop, dNext, dNever, dIf, dTest, bYes, bNot, bAnd, bOr, dAnd, dOr, dNot, dIfE, dChain, dBin, dUn, dArgs, dCall, dFun, dTup, dLst, dAsg, asg, asgs, Option.bind, dOwn, dApp, dExt, dSetIx, dAug, dFr, dOwnV, dAppPop, dMth, isSeq_lst, isSeq_tup, isSeq_tupN, dFor, iSeq_eq, seqK_lst, seqK_tup, seqK_tupN, seqK_tabD, seqD_lst, seqD_tup, seqD_tupN, seqD_tabD, iEnumD, iZip2, iZip3,  iRange1, iRange2, dRgL, dRgT, gR1, gR2, dComp, dZipStar, dRng_nat, rgD_lst, in_tupN, in_lstN, notIn_tupN, count_lstN, fold_tupN, dPut, dGet1, dGet2, dSortItems, wipeE, dFld_eq, fldK_table, fldK_many, fldK_backs, to_ok, to_cond,
  addD, subD, modD, fdivD, mulD, powD, negD, iaddD, ltD, leD, gtD, geD, eqD, neD, PL.intD, absD, sumD, all_lstB, any_lstB, all_true, len_lst, len_tup, len_tupN, len_tabD, List.length_map, List.length_range, list_lst, list_tup, list_tupN, tuple_lst, tuple_tup, tuple_tupN, addDO, mulDO, dOptI, dSl, dSlO, slD, isi_tup_tuple, isi_int_int, isi_int_bool, isi_lst_list, okd_int, okd_bl, okd_non, okd_tupN, okd_lstN, okd_tabD, eqv_int, eqv_tupN, eqv_lstN, eqv_tabD, Bool.and_self, true_and, and_true, Bool.true_and, Bool.and_true, Bool.and_false, Bool.not_true, Bool.not_false, Bool.false_eq_true, if_true, if_false, ite_true, ite_false, reduceIte, Bool.true_eq_false,
  List.map, List.length, List.append, List.replicate, List.cons_append, List.nil_append, Nat.sub_self, List.set, List.getElem?_cons_zero, List.getElem?_cons_succ, spBody, spBodyI, startE, startI, Nat.add_sub_cancel, Nat.reduceAdd, Nat.reduceSub, List.replicate_succ, List.replicate_zero, List.set_cons_zero, List.set_cons_succ])
local macro_rules | `(tactic| walk_at "ds") => `(tactic| try simp only [okS_rings, okS_turns, okS_quarters, okS_led, okS_orders, okS_three, okS_table, eqS_rings_rings, eqS_rings_turns, eqS_rings_quarters, eqS_rings_led, eqS_rings_orders, eqS_rings_three, eqS_rings_table, eqS_turns_rings, eqS_turns_turns, eqS_turns_quarters, eqS_turns_led, eqS_turns_orders, eqS_turns_three, eqS_turns_table, eqS_quarters_rings, eqS_quarters_turns, eqS_quarters_quarters, eqS_quarters_led, eqS_quarters_orders, eqS_quarters_three, eqS_quarters_table, eqS_led_rings, eqS_led_turns, eqS_led_quarters, eqS_led_led, eqS_led_orders, eqS_led_three, eqS_led_table, eqS_orders_rings, eqS_orders_turns, eqS_orders_quarters, eqS_orders_led, eqS_orders_orders, eqS_orders_three, eqS_orders_table, eqS_three_rings, eqS_three_turns, eqS_three_quarters, eqS_three_led, eqS_three_orders, eqS_three_three, eqS_three_table, eqS_table_rings, eqS_table_turns, eqS_table_quarters, eqS_table_led, eqS_table_orders, eqS_table_three, eqS_table_table, Bool.and_self, true_and, Bool.not_true, Bool.not_false, if_true, if_false, Bool.false_eq_true, reduceIte])
local macro_rules | `(tactic| walk_at "di") => `(tactic| try simp only [it_0, it_1, it_2, it_3, itN_0, itN_1, itN_2, itN_3, int_i, ruleD, to_ok])
/-! ### the rules are looked at -/
theorem nodupP_ok : ∀ {l : List (List Nat)}, nodupP l = true → l.Nodup
  | [], _ => List.nodup_nil
  | x :: xs, h => by
    have mem : ∀ ys : List (List Nat), (List.rec (motive := fun _ => Bool) false (fun y _ ih2 => Bool.rec ih2 true (eqL x y)) ys : Bool) = false → x ∉ ys := by
      intro ys
      induction ys with
      | nil => intro _ h; cases h
      | cons y ys ih =>
        intro h hm
        have h : (Bool.rec (List.rec (motive := fun _ => Bool) false (fun y _ ih2 => Bool.rec ih2 true (eqL x y)) ys) true (eqL x y) : Bool) = false := h
        cases e : eqL x y with
        | true => rw [e] at h; cases h
        | false =>
          rw [e] at h
          rcases List.mem_cons.mp hm with q | q
          · rw [q, eqL_refl] at e; cases e
          · exact ih h q
    have h : (Bool.rec (nodupP xs) false (List.rec (motive := fun _ => Bool) false (fun y _ ih2 => Bool.rec ih2 true (eqL x y)) xs : Bool) : Bool) = true := h
    cases e : (List.rec (motive := fun _ => Bool) false (fun y _ ih2 => Bool.rec ih2 true (eqL x y)) xs : Bool) with
    | true => rw [e] at h; cases h
    | false =>
      rw [e] at h
      exact List.nodup_cons.mpr ⟨mem xs e, nodupP_ok (l := xs) h⟩
noncomputable def chkR (r : Rule) (gs : List Nat) : Bool :=
  okM r && ((mems r).all (shapeB r) && (Nat.ble (mems r).length 32 && (Nat.blt 1 (mems r).length && (nodupP (mems r) && (grpP (packT r) (mems r).length gs && tellsP r (packT r) (mems r).length)))))
theorem chkR_ok {r : Rule} {gs : List Nat} (h : chkR r gs = true) : Okr r (packT r) (mems r).length := by
  unfold chkR at h
  simp only [Bool.and_eq_true, Nat.ble_eq, Nat.blt_eq, List.all_eq_true] at h
  obtain ⟨h1, h2, h3, h4, h5, h6, h7⟩ := h
  refine ⟨h1, fun x hx => shapeB_ok h1 (h2 x hx), rfl, nodupP_ok h5, h3, h4, grpP_ok h6, fun a b ha hb => ?_⟩
  unfold tellsP at h7
  rw [Bool.and_eq_true] at h7
  have := eqL_ok (allN_ok (allN_ok h7.2 a ha) b hb)
  rw [nthL_eq, nthL_eq, nthL_eq] at this
  rw [ent_unpk ha hb]
  exact this
def gensR : Rule → List Nat
  | .rings s => (List.range s.length).map fun i => (s.drop (i + 1)).foldl (· * ·) 1
  | .turns n => [1, n]
  | .quarters n => [1, 2 * n]
  | .led n _ _ => [1, n]
  | .orders 0 => [1, 8]
  | .orders _ => [1, 3]
  | .three => [1, 3, 9]
  | .table => [1, 2]
theorem all_parts {α : Type} (p : α → Bool) (l : List α) (m k : Nat) (hl : l.length ≤ m * k) (h : ∀ i, i < k → ((l.drop (m * i)).take m).all p = true) : ∀ x ∈ l, p x = true := by
  intro x hx
  obtain ⟨j, hj, rfl⟩ := List.mem_iff_getElem.mp hx
  have m0 : 0 < m := Nat.pos_of_ne_zero fun z => by subst z; omega
  have h1 := h (j / m) ((Nat.div_lt_iff_lt_mul m0).mpr (by rw [Nat.mul_comm]; omega))
  refine List.all_eq_true.mp h1 _ ?_
  have h2 : ((l.drop (m * (j / m))).take m)[j % m]? = some l[j] := by
    rw [List.getElem?_take_of_lt (Nat.mod_lt _ m0), List.getElem?_drop, Nat.div_add_mod, List.getElem?_eq_getElem hj]
  exact List.mem_of_getElem? h2
theorem rk_0 : ((rulesAll.drop 0).take 4).all (fun r => chkR r (gensR r)) = true := by decide +kernel
theorem rk_1 : ((rulesAll.drop 4).take 4).all (fun r => chkR r (gensR r)) = true := by decide +kernel
theorem rk_2 : ((rulesAll.drop 8).take 4).all (fun r => chkR r (gensR r)) = true := by decide +kernel
theorem rk_3 : ((rulesAll.drop 12).take 4).all (fun r => chkR r (gensR r)) = true := by decide +kernel
theorem rk_4 : ((rulesAll.drop 16).take 4).all (fun r => chkR r (gensR r)) = true := by decide +kernel
theorem rk_5 : ((rulesAll.drop 20).take 4).all (fun r => chkR r (gensR r)) = true := by decide +kernel
theorem rk_6 : ((rulesAll.drop 24).take 4).all (fun r => chkR r (gensR r)) = true := by decide +kernel
theorem rk_7 : ((rulesAll.drop 28).take 4).all (fun r => chkR r (gensR r)) = true := by decide +kernel
theorem rk_8 : ((rulesAll.drop 32).take 4).all (fun r => chkR r (gensR r)) = true := by decide +kernel
theorem rk_9 : ((rulesAll.drop 36).take 4).all (fun r => chkR r (gensR r)) = true := by decide +kernel
theorem rk_10 : ((rulesAll.drop 40).take 4).all (fun r => chkR r (gensR r)) = true := by decide +kernel
theorem rk_11 : ((rulesAll.drop 44).take 4).all (fun r => chkR r (gensR r)) = true := by decide +kernel
theorem rk_12 : ((rulesAll.drop 48).take 4).all (fun r => chkR r (gensR r)) = true := by decide +kernel
theorem rk_13 : ((rulesAll.drop 52).take 4).all (fun r => chkR r (gensR r)) = true := by decide +kernel
theorem rk_14 : ((rulesAll.drop 56).take 4).all (fun r => chkR r (gensR r)) = true := by decide +kernel
theorem rk_15 : ((rulesAll.drop 60).take 4).all (fun r => chkR r (gensR r)) = true := by decide +kernel
theorem rk_16 : ((rulesAll.drop 64).take 4).all (fun r => chkR r (gensR r)) = true := by decide +kernel
theorem rk_17 : ((rulesAll.drop 68).take 4).all (fun r => chkR r (gensR r)) = true := by decide +kernel
theorem rk_18 : ((rulesAll.drop 72).take 4).all (fun r => chkR r (gensR r)) = true := by decide +kernel
theorem rules_ok : ∀ r ∈ rulesAll, chkR r (gensR r) = true := by
  refine all_parts (fun r => chkR r (gensR r)) rulesAll 4 19 (by decide +kernel) fun i hi => ?_
  have : i = 0 ∨ i = 1 ∨ i = 2 ∨ i = 3 ∨ i = 4 ∨ i = 5 ∨ i = 6 ∨ i = 7 ∨ i = 8 ∨ i = 9 ∨ i = 10 ∨ i = 11 ∨ i = 12 ∨ i = 13 ∨ i = 14 ∨ i = 15 ∨ i = 16 ∨ i = 17 ∨ i = 18 := by omega
  rcases this with rfl | rfl | rfl | rfl | rfl | rfl | rfl | rfl | rfl | rfl | rfl | rfl | rfl | rfl | rfl | rfl | rfl | rfl | rfl
  · exact rk_0
  · exact rk_1
  · exact rk_2
  · exact rk_3
  · exact rk_4
  · exact rk_5
  · exact rk_6
  · exact rk_7
  · exact rk_8
  · exact rk_9
  · exact rk_10
  · exact rk_11
  · exact rk_12
  · exact rk_13
  · exact rk_14
  · exact rk_15
  · exact rk_16
  · exact rk_17
  · exact rk_18
theorem rule_ok {r : Rule} (h : r ∈ rulesAll) : Okr r (packT r) (mems r).length := chkR_ok (rules_ok r h)
end KK
set_option Elab.async false
set_option linter.all false
set_option maxRecDepth 100000
set_option maxHeartbeats 2000000
namespace KK
open PySem PySem.Spec PyProof.Rows L2 PL GT
local macro_rules | `(tactic| walk_at "dw") => `(tactic| try simp only [dSeq, dPar, dVar, dVarB, dC, cK, dRet, dRetN, dDrop, dNext, dNever, dIf, dTest, bYes, bNot, bAnd, bOr, dAnd, dOr, dNot, dIfE, dChain, dBin, dUn, dArgs, dCall, dFun, dTup, dLst, dAsg, asg, asgs, Option.bind, dOwn, dApp, dExt, dSetIx, dAug, dFr, dOwnV, dAppPop, dMth, isSeq_lst, isSeq_tup, isSeq_tupN, dFor, iSeq_eq, seqK_lst, seqK_tup, seqK_tupN, seqK_tabD, seqD_lst, seqD_tup, seqD_tupN, seqD_tabD, iEnumD, iZip2, iZip3,  iRange1, iRange2, dRgL, dRgT, gR1, gR2, dComp, dZipStar, dRng_nat, rgD_lst, in_tupN, in_lstN, notIn_tupN, count_lstN, fold_tupN, dPut, dGet1, dGet2, dSortItems, wipeE, dFld_eq, fldK_table, fldK_many, fldK_backs, to_ok, to_cond,
  addD, subD, modD, fdivD, mulD, powD, negD, iaddD, ltD, leD, gtD, geD, eqD, neD, PL.intD, absD, sumD, all_lstB, any_lstB, all_true, len_lst, len_tup, len_tupN, len_tabD, List.length_map, List.length_range, list_lst, list_tup, list_tupN, tuple_lst, tuple_tup, tuple_tupN, addDO, mulDO, dOptI, dSl, dSlO, slD, isi_tup_tuple, isi_int_int, isi_int_bool, isi_lst_list, okd_int, okd_bl, okd_non, okd_tupN, okd_lstN, okd_tabD, eqv_int, eqv_tupN, eqv_lstN, eqv_tabD, Bool.and_self, true_and, and_true, Bool.true_and, Bool.and_true, Bool.and_false, Bool.not_true, Bool.not_false, Bool.false_eq_true, if_true, if_false, ite_true, ite_false, reduceIte, Bool.true_eq_false,
  List.map, List.length, List.append, List.replicate, List.cons_append, List.nil_append, Nat.sub_self, List.set, List.getElem?_cons_zero, List.getElem?_cons_succ, spBody, spBodyI, startE, startI, Nat.add_sub_cancel, Nat.reduceAdd, Nat.reduceSub, List.replicate_succ, List.replicate_zero, List.set_cons_zero, List.set_cons_succ])
local macro_rules | `(tactic| walk_at "ds") => `(tactic| try simp only [okS_rings, okS_turns, okS_quarters, okS_led, okS_orders, okS_three, okS_table, eqS_rings_rings, eqS_rings_turns, eqS_rings_quarters, eqS_rings_led, eqS_rings_orders, eqS_rings_three, eqS_rings_table, eqS_turns_rings, eqS_turns_turns, eqS_turns_quarters, eqS_turns_led, eqS_turns_orders, eqS_turns_three, eqS_turns_table, eqS_quarters_rings, eqS_quarters_turns, eqS_quarters_quarters, eqS_quarters_led, eqS_quarters_orders, eqS_quarters_three, eqS_quarters_table, eqS_led_rings, eqS_led_turns, eqS_led_quarters, eqS_led_led, eqS_led_orders, eqS_led_three, eqS_led_table, eqS_orders_rings, eqS_orders_turns, eqS_orders_quarters, eqS_orders_led, eqS_orders_orders, eqS_orders_three, eqS_orders_table, eqS_three_rings, eqS_three_turns, eqS_three_quarters, eqS_three_led, eqS_three_orders, eqS_three_three, eqS_three_table, eqS_table_rings, eqS_table_turns, eqS_table_quarters, eqS_table_led, eqS_table_orders, eqS_table_three, eqS_table_table, Bool.and_self, true_and, Bool.not_true, Bool.not_false, if_true, if_false, Bool.false_eq_true, reduceIte])
local macro_rules | `(tactic| walk_at "di") => `(tactic| try simp only [it_0, it_1, it_2, it_3, itN_0, itN_1, itN_2, itN_3, int_i, ruleD, to_ok])
/-! ### even, round, the exponent: of a rule's table (k03) -/
noncomputable def ordG (T x : Nat) : Nat → Nat → Nat → Nat := Nat.rec (motive := fun _ => Nat → Nat → Nat) (fun _ k => k) (fun _ ih h k => Bool.rec (ih (entP T h x) (Nat.succ k)) k (Nat.beq h 0))
noncomputable def ordK (T n x : Nat) : Nat := ordG T x n x 1
theorem ordG_eq {T n x : Nat} (G : Grp (unpk T n) n) (hx : x < n) : ∀ (f k : Nat), ordG T x f (pw (unpk T n) x k) k = least (fun k => pw (unpk T n) x k == 0) f k
  | 0, _ => rfl
  | f + 1, k => by
    have hk := G.pw_lt hx k
    show (Bool.rec (ordG T x f (entP T (pw (unpk T n) x k) x) (k + 1)) k (Nat.beq (pw (unpk T n) x k) 0) : Nat) = _
    unfold least
    cases e : Nat.beq (pw (unpk T n) x k) 0 with
    | true =>
      rw [if_pos (by rw [Nat.eq_of_beq_eq_true e]; rfl)]
    | false =>
      rw [if_neg (by intro z; rw [beq_iff_eq.mp z] at e; cases e)]
      show ordG T x f (entP T (pw (unpk T n) x k) x) (k + 1) = _
      rw [← ent_unpk hk hx]
      exact ordG_eq G hx f (k + 1)
theorem ordK_eq {T n x : Nat} (G : Grp (unpk T n) n) (hx : x < n) : ordK T n x = ord (unpk T n) x := by
  have := ordG_eq G hx n 1
  rw [pw_one G hx] at this
  unfold ordK ord
  rw [this, G.len]
noncomputable def evenP (T n : Nat) : Bool := allN (fun a => allN (fun b => Nat.beq (entP T a b) (entP T b a)) n) n
noncomputable def eqB (a b : Bool) : Bool := Bool.rec (Bool.rec true false b) b a
theorem eqB_ok {a b : Bool} (h : eqB a b = true) : a = b := by
  cases a <;> cases b <;> first | rfl | cases h
noncomputable def chk3 (r : Rule) : Bool :=
  eqB (evenP (packT r) (mems r).length) (isPlain r).1 && (eqB (anyN (fun x => Nat.beq (ordK (packT r) (mems r).length x) (mems r).length) (mems r).length) (isPlain r).2 &&
    Bool.rec true (anyN (fun y => allN (fun x => Nat.beq (Nat.mod (ordK (packT r) (mems r).length y) (ordK (packT r) (mems r).length x)) 0) (mems r).length) (mems r).length) (evenP (packT r) (mems r).length))
theorem r3_0 : ((rulesAll.drop 0).take 4).all (fun r => chk3 r) = true := by decide +kernel
theorem r3_1 : ((rulesAll.drop 4).take 4).all (fun r => chk3 r) = true := by decide +kernel
theorem r3_2 : ((rulesAll.drop 8).take 4).all (fun r => chk3 r) = true := by decide +kernel
theorem r3_3 : ((rulesAll.drop 12).take 4).all (fun r => chk3 r) = true := by decide +kernel
theorem r3_4 : ((rulesAll.drop 16).take 4).all (fun r => chk3 r) = true := by decide +kernel
theorem r3_5 : ((rulesAll.drop 20).take 4).all (fun r => chk3 r) = true := by decide +kernel
theorem r3_6 : ((rulesAll.drop 24).take 4).all (fun r => chk3 r) = true := by decide +kernel
theorem r3_7 : ((rulesAll.drop 28).take 4).all (fun r => chk3 r) = true := by decide +kernel
theorem r3_8 : ((rulesAll.drop 32).take 4).all (fun r => chk3 r) = true := by decide +kernel
theorem r3_9 : ((rulesAll.drop 36).take 4).all (fun r => chk3 r) = true := by decide +kernel
theorem r3_10 : ((rulesAll.drop 40).take 4).all (fun r => chk3 r) = true := by decide +kernel
theorem r3_11 : ((rulesAll.drop 44).take 4).all (fun r => chk3 r) = true := by decide +kernel
theorem r3_12 : ((rulesAll.drop 48).take 4).all (fun r => chk3 r) = true := by decide +kernel
theorem r3_13 : ((rulesAll.drop 52).take 4).all (fun r => chk3 r) = true := by decide +kernel
theorem r3_14 : ((rulesAll.drop 56).take 4).all (fun r => chk3 r) = true := by decide +kernel
theorem r3_15 : ((rulesAll.drop 60).take 4).all (fun r => chk3 r) = true := by decide +kernel
theorem r3_16 : ((rulesAll.drop 64).take 4).all (fun r => chk3 r) = true := by decide +kernel
theorem r3_17 : ((rulesAll.drop 68).take 4).all (fun r => chk3 r) = true := by decide +kernel
theorem r3_18 : ((rulesAll.drop 72).take 4).all (fun r => chk3 r) = true := by decide +kernel
theorem rules_3 : ∀ r ∈ rulesAll, chk3 r = true := by
  refine all_parts (fun r => chk3 r) rulesAll 4 19 (by decide +kernel) fun i hi => ?_
  have : i = 0 ∨ i = 1 ∨ i = 2 ∨ i = 3 ∨ i = 4 ∨ i = 5 ∨ i = 6 ∨ i = 7 ∨ i = 8 ∨ i = 9 ∨ i = 10 ∨ i = 11 ∨ i = 12 ∨ i = 13 ∨ i = 14 ∨ i = 15 ∨ i = 16 ∨ i = 17 ∨ i = 18 := by omega
  rcases this with rfl | rfl | rfl | rfl | rfl | rfl | rfl | rfl | rfl | rfl | rfl | rfl | rfl | rfl | rfl | rfl | rfl | rfl | rfl
  · exact r3_0
  · exact r3_1
  · exact r3_2
  · exact r3_3
  · exact r3_4
  · exact r3_5
  · exact r3_6
  · exact r3_7
  · exact r3_8
  · exact r3_9
  · exact r3_10
  · exact r3_11
  · exact r3_12
  · exact r3_13
  · exact r3_14
  · exact r3_15
  · exact r3_16
  · exact r3_17
  · exact r3_18
theorem allN_of {p : Nat → Bool} : ∀ {n : Nat}, (∀ k, k < n → p k = true) → allN p n = true
  | 0, _ => rfl
  | n + 1, h => by
    show (Bool.rec false (allN p n) (p n) : Bool) = true
    rw [h n (Nat.lt_succ_self n)]
    exact allN_of fun k hk => h k (by omega)
theorem anyN_of {p : Nat → Bool} : ∀ {n k : Nat}, k < n → p k = true → anyN p n = true
  | 0, _, h, _ => absurd h (Nat.not_lt_zero _)
  | n + 1, k, h, e => by
    show (Bool.rec (anyN p n) true (p n) : Bool) = true
    cases q : p n with
    | true => rfl
    | false =>
      refine anyN_of (n := n) (k := k) ?_ e
      have : k ≠ n := fun z => by rw [z, q] at e; cases e
      omega
/-- all exchange -/
def Even (t : Tb) (n : Nat) : Prop := ∀ a b, a < n → b < n → ent t a b = ent t b a
theorem even_transp {t : Tb} {n : Nat} (T : IsTab t n) : Even t n ↔ t = transp t n := by
  have h1 : ∀ a b, a < n → b < n → ((transp t n).getD a []).getD b 0 = ent t b a := fun a b ha hb => by
    unfold transp
    rw [getD_range ha, List.getD_eq_getElem?_getD, List.getElem?_map, List.getElem?_eq_getElem (by rw [T.len]; exact hb)]
    unfold ent
    rw [List.getD_eq_getElem?_getD (l := t), List.getElem?_eq_getElem (by rw [T.len]; exact hb)]
    rfl
  have hl : (transp t n).length = n := by unfold transp; simp
  constructor
  · intro h
    refine List.ext_getElem? fun a => ?_
    by_cases ha : a < n
    · have e1 : t[a]? = some (t.getD a []) := by rw [List.getD_eq_getElem?_getD, List.getElem?_eq_getElem (by rw [T.len]; exact ha)]; rfl
      have e2 : (transp t n)[a]? = some ((transp t n).getD a []) := by rw [List.getD_eq_getElem?_getD, List.getElem?_eq_getElem (by rw [hl]; exact ha)]; rfl
      have l2 : ((transp t n).getD a []).length = n := by unfold transp; rw [getD_range ha, List.length_map, T.len]
      rw [e1, e2]
      congr 1
      refine List.ext_getElem? fun b => ?_
      by_cases hb : b < n
      · have e3 : (t.getD a [])[b]? = some (ent t a b) := by unfold ent; rw [List.getD_eq_getElem?_getD (l := t.getD a []), List.getElem?_eq_getElem (by rw [T.rowlen ha]; exact hb)]; rfl
        have e4 : ((transp t n).getD a [])[b]? = some (((transp t n).getD a []).getD b 0) := by rw [List.getD_eq_getElem?_getD (l := (transp t n).getD a []), List.getElem?_eq_getElem (by rw [l2]; exact hb)]; rfl
        rw [e3, e4, h1 a b ha hb, h a b ha hb]
      · rw [List.getElem?_eq_none (by rw [T.rowlen ha]; omega), List.getElem?_eq_none (by rw [l2]; omega)]
    · rw [List.getElem?_eq_none (by rw [T.len]; omega), List.getElem?_eq_none (by rw [hl]; omega)]
  · intro h a b ha hb
    rw [← h1 b a hb ha, ← h]; rfl
/-- what the law asks of the table of a rule -/
structure Law3 (r : Rule) (t : Tb) (n : Nat) : Prop where
  even : Even t n ↔ (isPlain r).1 = true
  round : (∃ x, x < n ∧ ord t x = n) ↔ (isPlain r).2 = true
  exp : Even t n → ∃ y, y < n ∧ ∀ x, x < n → ord t x ∣ ord t y
theorem law3_of {r : Rule} (h : r ∈ rulesAll) : Law3 r (unpk (packT r) (mems r).length) (mems r).length := by
  have G := (rule_ok h).grp
  have c := rules_3 r h
  unfold chk3 at c
  simp only [Bool.and_eq_true] at c
  obtain ⟨c1, c2, c3⟩ := c
  have c1 := eqB_ok c1
  have c2 := eqB_ok c2
  have ev : Even (unpk (packT r) (mems r).length) (mems r).length ↔ evenP (packT r) (mems r).length = true := by
    constructor
    · intro e
      refine allN_of fun a ha => allN_of fun b hb => ?_
      have := e a b ha hb
      rw [ent_unpk ha hb, ent_unpk hb ha] at this
      rw [this]; exact Nat.beq_refl _
    · intro e a b ha hb
      rw [ent_unpk ha hb, ent_unpk hb ha]
      exact Nat.eq_of_beq_eq_true (allN_ok (allN_ok e a ha) b hb)
  refine ⟨ev.trans (by rw [c1]), ?_, fun e => ?_⟩
  · rw [← c2]
    constructor
    · rintro ⟨x, hx, e⟩
      refine anyN_of hx ?_
      show Nat.beq (ordK _ _ x) _ = true
      rw [ordK_eq G hx, e]; exact Nat.beq_refl _
    · intro e
      obtain ⟨x, hx, e⟩ := anyN_ok e
      have e := Nat.eq_of_beq_eq_true e
      rw [ordK_eq G hx] at e
      exact ⟨x, hx, e⟩
  · rw [ev.mp e] at c3
    obtain ⟨y, hy, e⟩ := anyN_ok c3
    refine ⟨y, hy, fun x hx => ?_⟩
    have := Nat.eq_of_beq_eq_true (allN_ok e x hx)
    rw [ordK_eq G hy, ordK_eq G hx] at this
    exact Nat.dvd_of_mod_eq_zero this
theorem Law3.iso {r : Rule} {t t' : Tb} {n : Nat} {f g : Nat → Nat} (L : Law3 r t n) (G : Grp t n) (T : IsTab t' n) (I : Iso t t' n f g) : Law3 r t' n := by
  have G' := I.grp G T
  have ev : Even t' n ↔ Even t n := by
    constructor
    · intro e a b ha hb
      have h1 := I.fen G.toIsTab (I.gl a ha) (I.gl b hb)
      have h2 := I.fen G.toIsTab (I.gl b hb) (I.gl a ha)
      rw [I.fg a ha, I.fg b hb] at h1 h2
      rw [← h1, ← h2, e _ _ (I.gl a ha) (I.gl b hb)]
    · intro e a b ha hb
      rw [I.en a b ha hb, I.en b a hb ha, e _ _ (I.fl a ha) (I.fl b hb)]
  refine ⟨ev.trans L.even, ?_, fun e => ?_⟩
  · rw [← L.round]
    constructor
    · rintro ⟨x, hx, e⟩
      exact ⟨f x, I.fl x hx, by rw [← I.ord G T hx]; exact e⟩
    · rintro ⟨x, hx, e⟩
      refine ⟨g x, I.gl x hx, ?_⟩
      rw [I.ord G T (I.gl x hx), I.fg x hx]; exact e
  · obtain ⟨y, hy, h⟩ := L.exp (ev.mp e)
    refine ⟨g y, I.gl y hy, fun x hx => ?_⟩
    rw [I.ord G T (I.gl y hy), I.fg y hy, I.ord G T hx]
    exact h _ (I.fl x hx)
end KK
set_option Elab.async false
set_option linter.all false
set_option maxRecDepth 100000
set_option maxHeartbeats 2000000
namespace KK
open PySem PySem.Spec PyProof.Rows L2 PL GT
local macro_rules | `(tactic| walk_at "dw") => `(tactic| try simp only [dSeq, dPar, dVar, dVarB, dC, cK, dRet, dRetN, dDrop, dNext, dNever, dIf, dTest, bYes, bNot, bAnd, bOr, dAnd, dOr, dNot, dIfE, dChain, dBin, dUn, dArgs, dCall, dFun, dTup, dLst, dAsg, asg, asgs, Option.bind, dOwn, dApp, dExt, dSetIx, dAug, dFr, dOwnV, dAppPop, dMth, isSeq_lst, isSeq_tup, isSeq_tupN, dFor, iSeq_eq, seqK_lst, seqK_tup, seqK_tupN, seqK_tabD, seqD_lst, seqD_tup, seqD_tupN, seqD_tabD, iEnumD, iZip2, iZip3,  iRange1, iRange2, dRgL, dRgT, gR1, gR2, dComp, dZipStar, dRng_nat, rgD_lst, in_tupN, in_lstN, notIn_tupN, count_lstN, fold_tupN, dPut, dGet1, dGet2, dSortItems, wipeE, dFld_eq, fldK_table, fldK_many, fldK_backs, to_ok, to_cond,
  addD, subD, modD, fdivD, mulD, powD, negD, iaddD, ltD, leD, gtD, geD, eqD, neD, PL.intD, absD, sumD, all_lstB, any_lstB, all_true, len_lst, len_tup, len_tupN, len_tabD, List.length_map, List.length_range, list_lst, list_tup, list_tupN, tuple_lst, tuple_tup, tuple_tupN, addDO, mulDO, dOptI, dSl, dSlO, slD, isi_tup_tuple, isi_int_int, isi_int_bool, isi_lst_list, okd_int, okd_bl, okd_non, okd_tupN, okd_lstN, okd_tabD, eqv_int, eqv_tupN, eqv_lstN, eqv_tabD, Bool.and_self, true_and, and_true, Bool.true_and, Bool.and_true, Bool.and_false, Bool.not_true, Bool.not_false, Bool.false_eq_true, if_true, if_false, ite_true, ite_false, reduceIte, Bool.true_eq_false,
  List.map, List.length, List.append, List.replicate, List.cons_append, List.nil_append, Nat.sub_self, List.set, List.getElem?_cons_zero, List.getElem?_cons_succ, spBody, spBodyI, startE, startI, Nat.add_sub_cancel, Nat.reduceAdd, Nat.reduceSub, List.replicate_succ, List.replicate_zero, List.set_cons_zero, List.set_cons_succ])
local macro_rules | `(tactic| walk_at "ds") => `(tactic| try simp only [okS_rings, okS_turns, okS_quarters, okS_led, okS_orders, okS_three, okS_table, eqS_rings_rings, eqS_rings_turns, eqS_rings_quarters, eqS_rings_led, eqS_rings_orders, eqS_rings_three, eqS_rings_table, eqS_turns_rings, eqS_turns_turns, eqS_turns_quarters, eqS_turns_led, eqS_turns_orders, eqS_turns_three, eqS_turns_table, eqS_quarters_rings, eqS_quarters_turns, eqS_quarters_quarters, eqS_quarters_led, eqS_quarters_orders, eqS_quarters_three, eqS_quarters_table, eqS_led_rings, eqS_led_turns, eqS_led_quarters, eqS_led_led, eqS_led_orders, eqS_led_three, eqS_led_table, eqS_orders_rings, eqS_orders_turns, eqS_orders_quarters, eqS_orders_led, eqS_orders_orders, eqS_orders_three, eqS_orders_table, eqS_three_rings, eqS_three_turns, eqS_three_quarters, eqS_three_led, eqS_three_orders, eqS_three_three, eqS_three_table, eqS_table_rings, eqS_table_turns, eqS_table_quarters, eqS_table_led, eqS_table_orders, eqS_table_three, eqS_table_table, Bool.and_self, true_and, Bool.not_true, Bool.not_false, if_true, if_false, Bool.false_eq_true, reduceIte])
local macro_rules | `(tactic| walk_at "di") => `(tactic| try simp only [it_0, it_1, it_2, it_3, itN_0, itN_1, itN_2, itN_3, int_i, ruleD, to_ok])
theorem S__law_hand : ∀ Q : D → Prop, (∀ (cells : List Int) (m : Int), Q (.lst [.lst (cells.map D.int), .int 0, .int 0, .int m, .int 0])) → T__law_hand { nx := fun _ => False, rt := Q, ex := fun _ => False } (startE 3 [.hand]) := by
  intro Q q
  unfold T__law_hand
  simp only [dSeq, dOwnV, dComp, iSeq_eq, dScr, startE, List.map, List.length, List.replicate, List.cons_append, List.nil_append, wipeE, List.set, List.getElem?_cons_zero, List.getElem?_cons_succ, Nat.reduceSub, List.replicate_succ, List.replicate_zero, List.set_cons_succ, List.set_cons_zero]
  refine ⟨trivial, fun cells hc => ?_⟩
  simp only [seqK_lst, List.length_map]
  refine ⟨by omega, compE cells D.int (fun i => (if i < 0 then -i else i) % 10 ^ 60) D.int (fun i _ => ⟨_, rfl, fun R hR => ?_⟩) ?_⟩
  · simp only [dBin, dCall, dArgs, dVarB, dC, powD, List.set, List.getElem?_cons_zero, List.getElem?_cons_succ]
    exact ⟨⟨by decide, by decide, by decide⟩, by decide, hR⟩
  · walk_at "dw"
    refine ⟨.inl (.inl (by decide)), ?_⟩
    exact q _ _
mutual
theorem eqv_self : ∀ (d : D) (n : Nat), okv n d = true → eqv d d = true
  | .non, _, _ => rfl
  | .bl b, _, _ => by cases b <;> rfl
  | .int i, _, _ => by rw [eqv_int]; simp
  | .str s, _, _ => by show (s == s) = true; simp
  | .lst xs, 0, h => by cases h
  | .lst xs, n + 1, h => eqvL_self xs n h
  | .tup xs, 0, h => by cases h
  | .tup xs, n + 1, h => eqvL_self xs n h
  | .ty _, _, h => by simp [okv] at h
  | .dct _ _, _, h => by simp [okv] at h
  | .tdc _ _, _, h => by simp [okv] at h
  | .obj _ _ _, _, h => by simp [okv] at h
  | .glo _, _, h => by simp [okv] at h
  | .hand, _, h => by simp [okv] at h
theorem eqvL_self : ∀ (ds : List D) (n : Nat), okvL n ds = true → eqvL ds ds = true
  | [], _, _ => by simp [eqvL]
  | d :: ds, n, h => by
    have h : (okv n d && okvL n ds) = true := h
    rw [Bool.and_eq_true] at h
    show (eqv d d && eqvL ds ds) = true
    rw [eqv_self d n h.1, eqvL_self ds n h.2]; rfl
end
theorem okd_lstT (t : Tb) : okd (.lst (t.map tupN)) = true := okvL_of 59 tupN t fun r _ => okv_tupN 58 r
theorem ne_self {d : D} (h : okd d = true) : (!eqv d d) = false := by rw [eqv_self d 60 h]; rfl
theorem sortSet_nat {i : Nat} {ρ : DEnv} {l : List Nat} {m : Nat} {Q : D → Prop} {E : EX → Prop} (he : ρ[i]? = some (some (.val (.lst (l.map nI)))) ∨ ρ[i]? = some (some (.own (.lst (l.map nI))))) (hl : l.length < 64) (h : ∀ x ∈ l, x < m) (q : Q (.lst ((sset m l).map nI))) : dSortSet (dVarB i) ρ Q E := by
  have key : (match seqD (.lst (l.map nI)) with
    | some (_, ds) => (match intsD ds with | some ns => ns.length < 64 ∧ ∀ out : List Int, out.Pairwise (· < ·) → (∀ k, k ∈ out ↔ k ∈ ns) → Q (.lst (out.map D.int)) | none => False)
    | none => False) := by
    show (match intsD (l.map nI) with | some ns => ns.length < 64 ∧ ∀ out : List Int, out.Pairwise (· < ·) → (∀ k, k ∈ out ↔ k ∈ ns) → Q (.lst (out.map D.int)) | none => False)
    rw [intsD_nat]
    refine ⟨by rw [List.length_map]; exact hl, fun out po ho => ?_⟩
    have e1 : out = (out.map Int.toNat).map fun (x : Nat) => (x : Int) := by
      rw [List.map_map]
      refine (List.map_id'' (fun _ => rfl) out).symm.trans (List.map_congr_left fun x hx => ?_)
      obtain ⟨y, _, rfl⟩ := List.mem_map.mp ((ho x).mp hx)
      show ((y : Int)) = ((Int.toNat (y : Int) : Nat) : Int)
      omega
    have nn : ∀ x ∈ out, 0 ≤ x := fun x hx => by
      obtain ⟨y, _, rfl⟩ := List.mem_map.mp ((ho x).mp hx)
      omega
    have e2 : out.map Int.toNat = sset m l := by
      refine sset_unique h ?_ fun k => ?_
      · rw [List.pairwise_map]
        refine List.Pairwise.imp_of_mem (fun {a b} ha hb z => ?_) po
        have := nn a ha
        have := nn b hb
        omega
      · constructor
        · intro hk
          obtain ⟨x, hx, rfl⟩ := List.mem_map.mp hk
          obtain ⟨y, hy, rfl⟩ := List.mem_map.mp ((ho x).mp hx)
          exact hy
        · intro hk
          exact List.mem_map.mpr ⟨(k : Int), (ho _).mpr (List.mem_map.mpr ⟨k, hk, rfl⟩), by simp⟩
    have e3 : out.map D.int = (sset m l).map nI := by
      rw [e1, e2, List.map_map]; rfl
    rw [e3]; exact q
  show (match ρ[i]? with | some (some (.val d)) => _ | some (some (.own d)) => _ | _ => False)
  rcases he with e | e <;> rw [e] <;> exact key
theorem maxI_spec : ∀ (l : List Nat), l ≠ [] → ∃ m ∈ l, mxI (l.map fun (x : Nat) => (x : Int)) = (m : Int) ∧ ∀ x ∈ l, x ≤ m := by
  intro l hl
  cases l with
  | nil => exact absurd rfl hl
  | cons a l =>
    show ∃ m ∈ a :: l, (l.map fun (x : Nat) => (x : Int)).foldl max (a : Int) = (m : Int) ∧ ∀ x ∈ a :: l, x ≤ m
    clear hl
    induction l generalizing a with
    | nil => exact ⟨a, List.mem_cons_self, rfl, fun x hx => by rw [List.mem_singleton.mp hx]; exact Nat.le_refl _⟩
    | cons b l ih =>
      obtain ⟨m, hm, e, h⟩ := ih (max a b)
      refine ⟨m, ?_, ?_, fun x hx => ?_⟩
      · rcases List.mem_cons.mp hm with q | q
        · rw [q]
          by_cases z : a ≤ b
          · rw [Nat.max_eq_right z]; simp
          · rw [Nat.max_eq_left (by omega)]; simp
        · simp [q]
      · rw [List.map_cons, List.foldl_cons]
        have : max (a : Int) (b : Int) = ((max a b : Nat) : Int) := by omega
        rw [this]; exact e
      · have h0 := h (max a b) List.mem_cons_self
        rcases List.mem_cons.mp hx with q | q
        · rw [q]; omega
        · rcases List.mem_cons.mp q with q | q
          · rw [q]; omega
          · exact h x (List.mem_cons_of_mem _ q)
def tail3 : DS :=
 (dSeq
 (dPar 6 7 .v .v (dFun P_Group [(dVar 5)]) (dComp (iRange1 [(dCall lenD2 [(dVarB 5)])]) (.name 8) bYes (dFun P__law_row [(dVar 5), (dVar 8)]) [8]))
 (dSeq
 (dIf (bOr (dTest (dBin neD (dCall listD [(dFun P_lines [(dVar 6)])]) (dVarB 7))) (bNot (dTest (dCall isiR [(dFun P_lines [(dVar 6)]), (dC (.ty "list"))]))))
 (dRet (dC (.bl false)))
 dNext)
 (dSeq
 (dAsg (.name 9) (dComp (iSeq (dVar 7)) (.name 10) bYes (dCall lenD2 [(dVarB 10)]) [10]))
 (dSeq
 (dIf (dTest (dBin neD (dCall listD [(dFun P_order_counts [(dVar 6)])]) (dComp (iSeq (dSortSet (dVarB 9))) (.name 11) bYes (dTup [(dVar 11), (dMth countD (dVarB 9) [(dVarB 11)])]) [11])))
 (dRet (dC (.bl false)))
 dNext)
 (dSeq
 (dAsg (.name 12) (dCall allD [(dComp (iEnumD (dVar 5)) (.tup [(.name 14), (.name 10)]) bYes (dBin eqD (dCall listD [(dVarB 10)]) (dComp (iSeq (dVar 5)) (.name 13) bYes (dBin itD (dVarB 13) (dVarB 14)) [13])) [14, 10])]))
 (dSeq
 (dAsg (.name 15) (dTup [(dVar 12), (dBin eqD (dCall maxD [(dVarB 9)]) (dCall lenD2 [(dVarB 5)]))]))
 (dSeq
 (dIf (bOr (dTest (dBin neD (dVarB 15) (dFun P__law_is_plain [(dVar 3)]))) (bNot (dTest (dFun P__law_is [(dLst [(dFun P_is_even [(dVar 6)]), (dFun P_is_round [(dVar 6)])]), (dCall listD [(dVarB 15)])]))))
 (dRet (dC (.bl false)))
 dNext)
 (dIf (bAnd (dTest (dVar 12)) (dTest (dBin neD (dFun P_exponent [(dVar 6)]) (dCall maxD [(dVarB 9)]))))
 (dRet (dC (.bl false)))
 dNext))))))))
theorem seq_asg {i : Nat} {t : DT} {u : DS} {N : Nds} {ρ : DEnv} (h : t ρ (fun d => u N (ρ.set i (some (.val d)))) N.ex) : dSeq (dAsg (.name i) t) u N ρ := h
theorem turn3 {r : Rule} {t : Tb} {n : Nat} {p a2 : D} {a6 a7 a8 a9 a10 a11 a12 a13 a14 a15 : Option C} {R1 R2 : DEnv → Prop} {R3 : D → Prop} {R4 : EX → Prop} (h32 : n ≤ 32) (h1 : 1 < n) (G : Grp t n) (T : IsTab t n) (L : Law3 r t n) (hs : ∀ s, r = .rings s → s.length ≤ 1000)
    (hR : ∀ b6 b7 b8 b9 b10 b11 b12 b13 b14 b15, R1 [none, some (.val .hand), some (.val a2), some (.val (ruleD r)), some (.val p), some (.val (tabD t)), b6, b7, b8, b9, b10, b11, b12, b13, b14, b15]) :
    tail3 { nx := R1, rt := R3, bk := R2, ct := R1, ex := R4 } [none, some (.val .hand), some (.val a2), some (.val (ruleD r)), some (.val p), some (.val (tabD t)), a6, a7, a8, a9, a10, a11, a12, a13, a14, a15] := by
  unfold tail3
  have tl : t.length = n := T.len
  walk_at "dw"
  refine S_Group G h32 ?_
  walk_at "dw"
  rw [tl]
  refine ⟨by omega, by omega, by omega, compE (List.range n) nI (line t) tupN (fun x hx => ⟨_, rfl, fun R hR => ?_⟩) ?_⟩
  · walk_at "dw"
    exact S__law_row G (by omega) (List.mem_range.mp hx) hR
  · walk_at "dw"
    refine S_lines G (by omega) ?_
    walk_at "dw"
    refine ⟨okd_lstT _, ifF (ne_self (okd_lstT _)) ?_⟩
    refine S_lines G (by omega) ?_
    walk_at "dw"
    have ol : (ords t n).length = n := by unfold ords; simp
    have ob : ∀ x ∈ ords t n, x < n + 1 := fun x hx => by
      obtain ⟨y, hy, rfl⟩ := List.mem_map.mp hx
      have := (G.ord_spec (List.mem_range.mp hy)).2.1
      omega
    have lens : ((List.range n).map (line t)).map List.length = ords t n := by
      rw [List.map_map]
      refine List.map_congr_left fun x _ => ?_
      exact line_len t x
    refine ⟨by omega, compE ((List.range n).map (line t)) tupN List.length nI (fun x hx => ⟨_, rfl, fun R hR => ?_⟩) ?_⟩
    · walk_at "dw"
      exact hR
    · rw [lens]
      refine S_order_counts G (by omega) ?_
      walk_at "dw"
      have okc : okd (.lst ((sset (n + 1) (ords t n)).map fun s => .tup [nI s, nI ((ords t n).count s)])) = true := okvL_of 59 _ _ fun s _ => rfl
      refine sortSet_nat (m := n + 1) (l := ords t n) (.inl rfl) (by rw [ol]; omega) ob ?_
      walk_at "dw"
      have sl : (sset (n + 1) (ords t n)).length ≤ n + 1 := by
        unfold sset
        refine Nat.le_trans (List.length_filter_le _ _) ?_
        rw [List.length_range]; exact Nat.le_refl _
      refine ⟨by omega, compM (sset (n + 1) (ords t n)) nI (fun s => .tup [nI s, nI ((ords t n).count s)]) (fun s hs => ⟨_, rfl, fun R hR => ?_⟩) ?_⟩
      · walk_at "dw"
        exact hR
      · walk_at "dw"
        rw [okc]
        refine ⟨rfl, ifF (ne_self okc) ?_⟩
        have rowE : ∀ (at_ : Nat) (row : List Nat), t[at_]? = some row → decide (row = t.map fun other => other.getD at_ 0) = decide (∀ b, b < n → ent t at_ b = ent t b at_) := fun at_ row h => by
          obtain ⟨hi, er, rl, rx⟩ := tab_get T h
          refine decide_eq_decide.mpr ⟨fun e b hb => ?_, fun e => ?_⟩
          · unfold ent
            rw [er, e, List.getD_eq_getElem?_getD, List.getElem?_map, List.getElem?_eq_getElem (by rw [tl]; exact hb)]
            rw [List.getD_eq_getElem?_getD (l := t), List.getElem?_eq_getElem (by rw [tl]; exact hb)]
            rfl
          · refine List.ext_getElem? fun b => ?_
            rw [List.getElem?_map]
            by_cases hb : b < n
            · have := e b hb
              unfold ent at this
              rw [er, List.getD_eq_getElem?_getD (l := row), List.getElem?_eq_getElem (by rw [rl]; exact hb), List.getD_eq_getElem?_getD (l := t), List.getElem?_eq_getElem (by rw [tl]; exact hb)] at this
              rw [List.getElem?_eq_getElem (by rw [rl]; exact hb), List.getElem?_eq_getElem (by rw [tl]; exact hb)]
              exact congrArg some this
            · rw [List.getElem?_eq_none (by rw [rl]; omega), List.getElem?_eq_none (by rw [tl]; omega)]; rfl
        rw [enum_len, len_map, tl, enum_map]
        refine ⟨by omega, compE t.zipIdx _ (fun p => decide (p.1 = t.map fun other => other.getD p.2 0)) D.bl (fun p hp => ⟨_, rfl, fun R hR => ?_⟩) ?_⟩
        · obtain ⟨row, at_⟩ := p
          have hp' : t[at_]? = some row := List.mem_zipIdx_iff_getElem?.mp hp
          obtain ⟨hi, er, rl, rx⟩ := tab_get T hp'
          walk_at "dw"
          refine ⟨by omega, compE t tupN (fun other => other.getD at_ 0) nI (fun other ho => ⟨_, rfl, fun R' hR' => ?_⟩) ?_⟩
          · walk_at "dw"
            rw [it_row (by rw [(T.row other ho).1]; exact hi), to_ok]
            exact hR'
          · walk_at "dw"
            exact hR
        · walk_at "dw"
          have al : ((t.zipIdx.map fun p => decide (p.1 = t.map fun other => other.getD p.2 0)).all id) = (isPlain r).1 := by
            have e1 : ((t.zipIdx.map fun p => decide (p.1 = t.map fun other => other.getD p.2 0)).all id) = true ↔ Even t n := by
              rw [List.all_map, List.all_eq_true]
              constructor
              · intro h a b ha hb
                have h0 : t[a]? = some (t.getD a []) := by rw [List.getD_eq_getElem?_getD, List.getElem?_eq_getElem (by rw [tl]; exact ha)]; rfl
                have h2 := h (t.getD a [], a) (List.mem_zipIdx_iff_getElem?.mpr h0)
                have h2 : decide (t.getD a [] = t.map fun other => other.getD a 0) = true := h2
                rw [rowE a _ h0, decide_eq_true_eq] at h2
                exact h2 b hb
              · rintro h ⟨row, at_⟩ hp
                have hp' : t[at_]? = some row := List.mem_zipIdx_iff_getElem?.mp hp
                show decide (row = t.map fun other => other.getD at_ 0) = true
                rw [rowE at_ row hp', decide_eq_true_eq]
                exact fun b hb => h at_ b (tab_get T hp').1 hb
            rw [Bool.eq_iff_iff, e1]
            exact L.even
          rw [al]
          obtain ⟨mx, hm, em, hmx⟩ := maxI_spec (ords t n) (fun e => by rw [e] at ol; simp at ol; omega)
          have maxE : maxD [.lst ((ords t n).map nI)] = .cond (0 < ((ords t n).map fun (x : Nat) => (x : Int)).length) (nI mx) := by
            show (match intsD ((ords t n).map nI) with | some ns => Ret.cond (0 < ns.length) (.int (mxI ns)) | none => .no) = _
            rw [intsD_nat]
            show Ret.cond (0 < ((ords t n).map fun (x : Nat) => (x : Int)).length) (.int (mxI ((ords t n).map fun (x : Nat) => (x : Int)))) = _
            rw [em]
          have lp : 0 < ((ords t n).map fun (x : Nat) => (x : Int)).length := by rw [List.length_map, ol]; omega
          have rd : decide ((mx : Int) = (n : Int)) = (isPlain r).2 := by
            rw [Bool.eq_iff_iff, ← L.round, decide_eq_true_eq]
            constructor
            · intro e
              obtain ⟨x, hx, e2⟩ := List.mem_map.mp hm
              exact ⟨x, List.mem_range.mp hx, by omega⟩
            · rintro ⟨x, hx, e⟩
              have := hmx n (List.mem_map.mpr ⟨x, List.mem_range.mpr hx, e⟩)
              have := ob mx hm
              omega
          have rd2 : decide (n ∈ ords t n) = (isPlain r).2 := by
            rw [Bool.eq_iff_iff, ← L.round, decide_eq_true_eq]
            constructor
            · intro h
              obtain ⟨x, hx, e2⟩ := List.mem_map.mp h
              exact ⟨x, List.mem_range.mp hx, e2⟩
            · rintro ⟨x, hx, e⟩
              exact List.mem_map.mpr ⟨x, List.mem_range.mpr hx, e⟩
          rw [maxE]
          refine ⟨lp, ?_⟩
          walk_at "dw"
          refine S__law_is_plain hs ?_
          rw [rd]
          have okf : okd (.tup [.bl (isPlain r).1, .bl (isPlain r).2]) = true := rfl
          rw [okf]
          refine ⟨rfl, ifF (ne_self okf) ?_⟩
          refine S_is_even G (by omega) ?_
          have ev2 : decide (t = transp t n) = (isPlain r).1 := by
            rw [Bool.eq_iff_iff, ← L.even, even_transp T, decide_eq_true_eq]
          rw [ev2]
          refine S_is_round G (by omega) ?_
          rw [rd2]
          refine S__law_is_bb ?_
          walk_at "dw"
          by_cases hev : (isPlain r).1 = true
          · refine ifT hev ?_
            refine S_exponent G (by omega) ?_
            have ex : lcmF (ords t n) = mx := by
              obtain ⟨y, hy, hd⟩ := L.exp (L.even.mpr hev)
              have my : mx ≤ ord t y := by
                obtain ⟨x, hx, e⟩ := List.mem_map.mp hm
                rw [← e]
                exact Nat.le_of_dvd (G.ord_spec hy).1 (hd x (List.mem_range.mp hx))
              have ym : ord t y ≤ mx := hmx _ (List.mem_map.mpr ⟨y, List.mem_range.mpr hy, rfl⟩)
              have em2 : mx = ord t y := by omega
              have lcm_dvd : ∀ (l : List Nat) (f m : Nat), f ∣ m → (∀ x ∈ l, x ∣ m) → l.foldl Nat.lcm f ∣ m := by
                intro l
                induction l with
                | nil => intro f m h _; exact h
                | cons a l ih =>
                  intro f m h h2
                  exact ih _ m (Nat.lcm_dvd h (h2 a List.mem_cons_self)) fun x hx => h2 x (List.mem_cons_of_mem _ hx)
              have dvd_lcm : ∀ (l : List Nat) (f : Nat), f ∣ l.foldl Nat.lcm f ∧ ∀ x ∈ l, x ∣ l.foldl Nat.lcm f := by
                intro l
                induction l with
                | nil => intro f; exact ⟨Nat.dvd_refl f, fun x hx => by cases hx⟩
                | cons a l ih =>
                  intro f
                  obtain ⟨h2, h3⟩ := ih (Nat.lcm f a)
                  refine ⟨Nat.dvd_trans (Nat.dvd_lcm_left f a) h2, fun x hx => ?_⟩
                  rcases List.mem_cons.mp hx with q | q
                  · rw [q]; exact Nat.dvd_trans (Nat.dvd_lcm_right f a) h2
                  · exact h3 x q
              refine Nat.dvd_antisymm ?_ ?_
              · refine lcm_dvd _ 1 mx (Nat.one_dvd _) fun x hx => ?_
                obtain ⟨z, hz, rfl⟩ := List.mem_map.mp hx
                rw [em2]
                exact hd z (List.mem_range.mp hz)
              · exact (dvd_lcm (ords t n) 1).2 mx hm
            rw [ex]
            refine ⟨by omega, rfl, ifF (ne_self rfl) ?_⟩
            exact hR _ _ _ _ _ _ _ _ _ _
          · refine ifF (by simpa using hev) ?_
            exact hR _ _ _ _ _ _ _ _ _ _
theorem fun1 {sp : SpD} {i : Nat} {ρ : DEnv} {d : D} {Q : D → Prop} {E : EX → Prop} (h : ρ[i]? = some (some (.val d))) (q : sp [d] Q E) : dFun sp [dVar i] ρ Q E := by
  show dVar i ρ _ E
  unfold dVar
  rw [h]; exact q
theorem fun2 {sp : SpD} {i : Nat} {t : DT} {ρ : DEnv} {d e : D} {Q : D → Prop} {E : EX → Prop} (h : ρ[i]? = some (some (.val d))) (ht : ∀ K : D → Prop, K e → t ρ K E) (q : sp [d, e] Q E) : dFun sp [dVar i, t] ρ Q E := by
  show dVar i ρ _ E
  unfold dVar
  rw [h]
  exact ht (fun x => sp [d, x] Q E) q
theorem fun2c {sp : SpD} {i : Nat} {t : DT} {ρ : DEnv} {d : D} {Q : D → Prop} {E : EX → Prop} (h : ρ[i]? = some (some (.val d))) (q : t ρ (fun x => sp [d, x] Q E) E) : dFun sp [dVar i, t] ρ Q E := by
  show dVar i ρ _ E
  unfold dVar
  rw [h]
  exact q
theorem S_law : R_law { nx := fun _ => False, rt := fun d => d = .bl true, ex := fun _ => False } (none :: some (.val .hand) :: List.replicate 14 none) := by
  unfold R_law T_law
  refine ⟨by decide, by decide, ?_⟩
  show forK _ _ _ ((List.range 4).map nI) _
  have body : ∀ (d : D) (a3 a4 a5 a6 a7 a8 a9 a10 a11 a12 a13 a14 a15 : Option C) (R1 R2 : DEnv → Prop) (R3 : D → Prop) (R4 : EX → Prop), (∀ b3 b4 b5 b6 b7 b8 b9 b10 b11 b12 b13 b14 b15, R1 [none, some (.val .hand), some (.val d), b3, b4, b5, b6, b7, b8, b9, b10, b11, b12, b13, b14, b15]) →
      (dSeq
 (dAsg (.name 3) (dFun P__law_rule [(dVar 1)]))
 (dSeq
 (dAsg (.name 4) (dFun P__law_table [(dVar 3)]))
 (dSeq
 (dAsg (.name 5) (dFun P__law_called [(dVar 4), (dFun P__law_names [(dVar 1), (dCall lenD2 [(dVarB 4)])])]))
 tail3))) { nx := R1, rt := R3, bk := R2, ct := R1, ex := R4 } [none, some (.val .hand), some (.val d), a3, a4, a5, a6, a7, a8, a9, a10, a11, a12, a13, a14, a15] := by
    intro d a3 a4 a5 a6 a7 a8 a9 a10 a11 a12 a13 a14 a15 R1 R2 R3 R4 hR
    refine seq_asg (fun1 (d := .hand) rfl ?_)
    refine S__law_rule fun r hr => ?_
    have O := rule_ok hr
    have L := law3_of hr
    generalize packT r = T0 at O L
    generalize (mems r).length = n at O L
    refine seq_asg (fun1 (d := ruleD r) rfl ?_)
    refine S__law_table O ?_
    have h32 := O.n32
    have h1 := O.n1
    have ul : (unpk T0 n).length = n := O.grp.len
    have I := fun told (N : IsNames told n) => called_iso O.grp.toIsTab N (by omega)
    have T := fun told (N : IsNames told n) => called_tab O.grp.toIsTab N
    have G := O.grp
    have hs : ∀ s, r = .rings s → s.length ≤ 1000 := fun s e => by
      have := O.m
      rw [e] at this
      exact (okM_rings this).2.1
    clear O hr
    generalize unpk T0 n = t0 at *
    refine seq_asg (fun2c (d := tabD t0) rfl ?_)
    refine fun2 (d := .hand) (e := nI n) rfl (fun K hK => ?_) ?_
    · walk_at "dw"
      rw [ul]; exact hK
    refine S__law_names (by omega) (by omega) fun told N => ?_
    refine S__law_called G.toIsTab (by omega) N ?_
    exact turn3 h32 h1 ((I told N).grp G (T told N)) (T told N) (L.iso G (T told N) (I told N)) hs fun b6 b7 b8 b9 b10 b11 b12 b13 b14 b15 => hR _ _ _ _ _ _ _ _ _ _ _ _ _
  refine forI ((List.range 4).map nI) (fun i ρ => ∃ a2 a3 a4 a5 a6 a7 a8 a9 a10 a11 a12 a13 a14 a15, ρ = [none, some (.val .hand), a2, a3, a4, a5, a6, a7, a8, a9, a10, a11, a12, a13, a14, a15]) ⟨none, none, none, none, none, none, none, none, none, none, none, none, none, none, Eq.refl _⟩ ?_ ?_
  · rintro i d ρ hd ⟨a2, a3, a4, a5, a6, a7, a8, a9, a10, a11, a12, a13, a14, a15, rfl⟩
    exact ⟨[none, some (.val .hand), some (.val d), a3, a4, a5, a6, a7, a8, a9, a10, a11, a12, a13, a14, a15], rfl, fun R hR => body d a3 a4 a5 a6 a7 a8 a9 a10 a11 a12 a13 a14 a15 R _ _ _ fun b3 b4 b5 b6 b7 b8 b9 b10 b11 b12 b13 b14 b15 => hR _ ⟨_, b3, b4, b5, b6, b7, b8, b9, b10, b11, b12, b13, b14, b15, Eq.refl _⟩⟩
  · rintro ρ ⟨a2, a3, a4, a5, a6, a7, a8, a9, a10, a11, a12, a13, a14, a15, rfl⟩
    rfl
end KK
set_option Elab.async false
set_option linter.all false
set_option maxRecDepth 100000
set_option maxHeartbeats 0
namespace KK
open PySem PySem.Spec PyProof.Rows L2 PL
def topS (i : Nat) : Stmt := PySem.Challenge.pw_tablegroups_k03_whole_lines_and_what_is.main.body.getD i (.Pass ⟨0, 0, 0, 0⟩)
def clsB : Stmt → List Stmt
  | .ClassDef (body := b) .. => b
  | _ => []
def clsS (i j : Nat) : Stmt := (clsB (topS i)).getD j (.Pass ⟨0, 0, 0, 0⟩)
/-! ### _law_hand -/
abbrev st__law_hand : Stmt := topS 20
def N__law_hand : List Str := ["script", "cells", "cell"]
theorem sc__law_hand : FnScope N__law_hand ["script"] (defScope st__law_hand) := ⟨rfl, rfl, rfl, by decide +kernel, rfl, by decide +kernel, by decide +kernel⟩
theorem W__law_hand {P : Program} {w : World} {K : PySem.W.Frag} {mg : Str → Option Value} {base : Heap} {k : Nat} {f : Addr} {fd : FuncData} (F : Fun K "_law_hand" "_law_hand" st__law_hand f fd)
    (m_int : mg "int" = none) (m_abs : mg "abs" = none) (m_len : mg "len" = none) (law : ∀ Q : D → Prop, (∀ (cells : List Int) (m : Int), Q (.lst [.lst (cells.map D.int), .int 0, .int 0, .int m, .int 0])) → T__law_hand { nx := fun _ => False, rt := Q, ex := fun _ => False } (startE N__law_hand.length [.hand])) : FnG P w K mg base (k + 1) f fd ["script"] (spHand K) :=
  hand_of F sc__law_hand (fun M ns hS cdv A outer s H E hr => by
    have nd := sc__law_hand.nd
    exact
 (pus_cons
 (pu_ownLcV (i := 1) (own := [("cell", 2)]) rfl nd rfl rfl (by rfl) (pui_seq (pu_scr hS (pv 0))) (blkOk_by (by rfl)) (fun _ _ _ _ _ => (pug_name (pg_name (i := 2) nd rfl (by first | exact .inl rfl | exact .inr rfl)))) (fun _ _ _ _ _ => puts_nil) (fun _ _ _ _ _ => (pu_bin od_mod (pub_of (pu_callTy cd_int (by rfl) m_int (by rfl) (pub_acons (pub_of (pu_callB cd_abs (by rfl) m_abs (by rfl) (pub_acons (pub_of (pu_callTy cd_int (by rfl) m_int (by rfl) (pub_acons (pub_var (pv 2)) pub_anil))) pub_anil))) pub_anil))) (pub_of (pu_bin od_pow (pub_of pu_int) (pub_of pu_int))))))
 (pus_one (pu_ret (pu_fz (pu_lst (pu_acons (pu_var (pv 1)) (pu_acons pu_int (pu_acons pu_int (pu_acons (pu_bin od_add (pub_of pu_int) (pub_of (pu_bin od_mul (pub_of pu_int) (pub_of (pu_callB cd_len2 (by rfl) m_len (by rfl) (pub_acons (pub_var (pv 1)) pub_anil)))))) (pu_acons pu_int pu_anil))))))))))) law
/-! ### _law_any -/
abbrev st__law_any : Stmt := topS 22
def N__law_any : List Str := ["hand", "some"]
theorem sc__law_any : FnScope N__law_any ["hand", "some"] (defScope st__law_any) := ⟨rfl, rfl, rfl, by decide +kernel, rfl, by decide +kernel, by decide +kernel⟩
theorem W__law_any {P : Program} {w : World} {K : PySem.W.Frag} {mg : Str → Option Value} {base : Heap} {k : Nat} {sp__law_draw : SpD} {f : Addr} {fd : FuncData} (F : Fun K "_law_any" "_law_any" st__law_any f fd) (gx : mg "_law_any" = some (.ref f)) (b : Binds K fd ["hand", "some"] [])
    (h__law_draw : Has P w K mg base (k + 1) "_law_draw" 2 sp__law_draw) (m_len : mg "len" = none) : Has P w K mg base (k + 2) "_law_any" 2 (spBody 2 (T__law_any sp__law_draw)) :=
  has_of F sc__law_any gx b fun M hM cdv A outer s H E hr => by
    have nd := sc__law_any.nd
    have tk : Takes (bodyCx P w K mg base N__law_any "_law_any" st__law_any f cdv A outer s H E) (bodyW E) := takes_body
    have pw := passes_body (P := P) (w := w) (K := K) (mg := mg) (base := base) (N := N__law_any) (qual := "_law_any") (st := st__law_any) (f := f) (cdv := cdv) (A := A) (outer := outer) (s := s) (H := H) (E := E)
    exact
 (pus_one (pu_ret (pu_ix (xd_it (hu65 hr) hM.h) (pub_var (pv 1)) (pub_of (pu_fun h__law_draw hM (rm hr) tk (by rfl) (pu_acons (pu_var (pv 0)) (pu_acons (pu_callB cd_len2 (by rfl) m_len (by rfl) (pub_acons (pub_var (pv 1)) pub_anil)) pu_anil)))))))
/-! ### _law_rule -/
abbrev st__law_rule : Stmt := topS 28
def N__law_rule : List Str := ["hand", "rules", "twos", "n", "r", "sizes", "way"]
theorem sc__law_rule : FnScope N__law_rule ["hand"] (defScope st__law_rule) := ⟨rfl, rfl, rfl, by decide +kernel, rfl, by decide +kernel, by decide +kernel⟩
theorem W__law_rule {P : Program} {w : World} {K : PySem.W.Frag} {mg : Str → Option Value} {base : Heap} {k : Nat} {sp__law_draw sp__law_any : SpD} {f : Addr} {fd : FuncData} (F : Fun K "_law_rule" "_law_rule" st__law_rule f fd) (gx : mg "_law_rule" = some (.ref f)) (b : Binds K fd ["hand"] [])
    (h__law_draw : Has P w K mg base (k + 1) "_law_draw" 2 sp__law_draw) (h__law_any : Has P w K mg base (k + 1) "_law_any" 2 sp__law_any) : Has P w K mg base (k + 2) "_law_rule" 1 (spBody 7 (T__law_rule sp__law_draw sp__law_any)) :=
  has_of F sc__law_rule gx b fun M hM cdv A outer s H E hr => by
    have nd := sc__law_rule.nd
    have tk : Takes (bodyCx P w K mg base N__law_rule "_law_rule" st__law_rule f cdv A outer s H E) (bodyW E) := takes_body
    have pw := passes_body (P := P) (w := w) (K := K) (mg := mg) (base := base) (N := N__law_rule) (qual := "_law_rule") (st := st__law_rule) (f := f) (cdv := cdv) (A := A) (outer := outer) (s := s) (H := H) (E := E)
    exact
 (pus_cons
 (pu_set (fun _ he => ps_set (i := 1) nd rfl (by first | exact .inl rfl | exact .inr rfl) he) (pu_fz (pu_lst (pu_acons (pu_tup (pu_acons pu_str (pu_acons pu_int pu_anil))) (pu_acons (pu_tup (pu_acons pu_str (pu_acons pu_int pu_anil))) (pu_acons (pu_tup (pu_acons pu_str pu_anil)) (pu_acons (pu_tup (pu_acons pu_str pu_anil)) (pu_acons (pu_tup (pu_acons pu_str (pu_acons pu_int (pu_acons pu_int (pu_acons pu_int pu_anil))))) (pu_acons (pu_tup (pu_acons pu_str (pu_acons pu_int (pu_acons pu_int (pu_acons pu_int pu_anil))))) pu_anil)))))))))
 (pus_cons
 (pu_set (fun _ he => ps_set (i := 2) nd rfl (by first | exact .inl rfl | exact .inr rfl) he) (pu_fz (pu_lst (pu_acons (pu_tup (pu_acons pu_int (pu_acons pu_int pu_anil))) (pu_acons (pu_tup (pu_acons pu_int (pu_acons pu_int pu_anil))) (pu_acons (pu_tup (pu_acons pu_int (pu_acons pu_int pu_anil))) (pu_acons (pu_tup (pu_acons pu_int (pu_acons pu_int pu_anil))) (pu_acons (pu_tup (pu_acons pu_int (pu_acons pu_int pu_anil))) (pu_acons (pu_tup (pu_acons pu_int (pu_acons pu_int pu_anil))) (pu_acons (pu_tup (pu_acons pu_int (pu_acons pu_int pu_anil))) (pu_acons (pu_tup (pu_acons pu_int (pu_acons pu_int pu_anil))) (pu_acons (pu_tup (pu_acons pu_int (pu_acons pu_int pu_anil))) (pu_acons (pu_tup (pu_acons pu_int (pu_acons pu_int pu_anil))) (pu_acons (pu_tup (pu_acons pu_int (pu_acons pu_int pu_anil))) pu_anil))))))))))))))
 (pus_cons
 (pu_set (fun _ he => ps_set (i := 1) nd rfl (by first | exact .inl rfl | exact .inr rfl) he) (pu_bin od_add (pub_var (pv 1)) (pub_of (pu_fz (puo_comp (own := [("n", 3), ("r", 4)]) rfl nd (pui_seq (pu_bin od_add (pub_var (pv 2)) (pub_of (pu_fz (pu_lst (pu_acons (pu_tup (pu_acons pu_int (pu_acons pu_int pu_anil))) pu_anil)))))) (blkOk_by (by rfl)) (fun _ _ _ _ _ => (pug_tup rfl (pug_cons (pug_name (pg_name (i := 3) nd rfl (by first | exact .inl rfl | exact .inr rfl))) (pug_cons (pug_name (pg_name (i := 4) nd rfl (by first | exact .inl rfl | exact .inr rfl))) pug_nil)))) (fun _ _ _ _ _ => puts_nil) (fun _ _ _ _ _ => (pu_tup (pu_acons pu_str (pu_acons (pu_var (pv 3)) (pu_acons pu_int (pu_acons (pu_var (pv 4)) pu_anil)))))))))))
 (pus_cons
 (pu_set (fun _ he => ps_set (i := 1) nd rfl (by first | exact .inl rfl | exact .inr rfl) he) (pu_bin od_add (pub_var (pv 1)) (pub_of (pu_fz (pu_lst (pu_acons (pu_tup (pu_acons pu_str (pu_acons pu_int (pu_acons pu_int (pu_acons pu_int pu_anil))))) (pu_acons (pu_tup (pu_acons pu_str (pu_acons pu_int (pu_acons pu_int (pu_acons pu_int pu_anil))))) (pu_acons (pu_tup (pu_acons pu_str (pu_acons pu_int (pu_acons pu_int (pu_acons pu_int pu_anil))))) pu_anil))))))))
 (pus_cons
 (pu_own (fun _ he => ps_set (i := 5) nd rfl (by first | exact .inl rfl | exact .inr rfl) he) (pu_lst (pu_acons (pu_tup (pu_acons pu_int (pu_acons pu_int (pu_acons pu_int (pu_acons pu_int pu_anil))))) (pu_acons (pu_tup (pu_acons pu_int (pu_acons pu_int (pu_acons pu_int pu_anil)))) (pu_acons (pu_tup (pu_acons pu_int (pu_acons pu_int (pu_acons pu_int pu_anil)))) (pu_acons (pu_tup (pu_acons pu_int (pu_acons pu_int (pu_acons pu_int (pu_acons pu_int (pu_acons pu_int pu_anil)))))) (pu_acons (pu_tup (pu_acons pu_int (pu_acons pu_int (pu_acons pu_int pu_anil)))) (pu_acons (pu_tup (pu_acons pu_int (pu_acons pu_int pu_anil))) (pu_acons (pu_tup (pu_acons pu_int (pu_acons pu_int pu_anil))) (pu_acons (pu_tup (pu_acons pu_int (pu_acons pu_int pu_anil))) (pu_acons (pu_tup (pu_acons pu_int (pu_acons pu_int pu_anil))) pu_anil)))))))))))
 (pus_cons
 (pu_app (fun _ he => ps_expr (pe_bm PySem.F.plainAttrs_list PySem.F.slot_list_append PySem.F.type_list_append mt_append (pv 5) (pa_cons he pa_nil))) (pu_tup (pu_acons pu_int (pu_acons pu_int (pu_acons pu_int pu_anil)))))
 (pus_cons
 (pu_set (fun _ he => ps_set (i := 6) nd rfl (by first | exact .inl rfl | exact .inr rfl) he) (pu_fun h__law_draw hM (rm hr) tk (by rfl) (pu_acons (pu_var (pv 0)) (pu_acons pu_int pu_anil))))
 (pus_cons
 (pu_if (put_cmp (od_eq (hu64 hr)) (by rfl) (pub_var (pv 6)) (pub_of pu_int))
 (pus_one (pu_ret (pu_tup (pu_acons pu_str (pu_acons (pu_bin od_add (pub_of pu_int) (pub_of (pu_fun h__law_draw hM (rm hr) tk (by rfl) (pu_acons (pu_var (pv 0)) (pu_acons pu_int pu_anil))))) pu_anil)))))
 pus_nil)
 (pus_cons
 (pu_if (put_cmp (od_eq (hu64 hr)) (by rfl) (pub_var (pv 6)) (pub_of pu_int))
 (pus_one (pu_ret (pu_tup (pu_acons pu_str (pu_acons (pu_bin od_add (pub_of pu_int) (pub_of (pu_fun h__law_draw hM (rm hr) tk (by rfl) (pu_acons (pu_var (pv 0)) (pu_acons pu_int pu_anil))))) pu_anil)))))
 pus_nil)
 (pus_cons
 (pu_if (put_cmp (od_eq (hu64 hr)) (by rfl) (pub_var (pv 6)) (pub_of pu_int))
 (pus_one (pu_ret (pu_tup (pu_acons pu_str (pu_acons (pu_fun h__law_any hM (rm hr) tk (by rfl) (pu_acons (pu_var (pv 0)) (pu_acons (pu_bin od_add (pub_var (pv 5)) (pub_of (pu_fz (pu_lst (pu_acons (pu_tup (pu_acons (pu_bin od_add (pub_of pu_int) (pub_of (pu_fun h__law_draw hM (rm hr) tk (by rfl) (pu_acons (pu_var (pv 0)) (pu_acons pu_int pu_anil))))) pu_anil)) pu_anil))))) pu_anil))) pu_anil)))))
 pus_nil)
 (pus_one (pu_ret (pu_fun h__law_any hM (rm hr) tk (by rfl) (pu_acons (pu_var (pv 0)) (pu_acons (pu_var (pv 1)) pu_anil)))))))))))))))
/-! ### _law_wrong -/
abbrev st__law_wrong : Stmt := topS 25
def N__law_wrong : List Str := ["row", "found", "at", "one", "other"]
theorem sc__law_wrong : FnScope N__law_wrong ["row"] (defScope st__law_wrong) := ⟨rfl, rfl, rfl, by decide +kernel, rfl, by decide +kernel, by decide +kernel⟩
theorem W__law_wrong {P : Program} {w : World} {K : PySem.W.Frag} {mg : Str → Option Value} {base : Heap} {k : Nat} {f : Addr} {fd : FuncData} (F : Fun K "_law_wrong" "_law_wrong" st__law_wrong f fd) (gx : mg "_law_wrong" = some (.ref f)) (b : Binds K fd ["row"] [])
    (m_enumerate : mg "enumerate" = none) (m_len : mg "len" = none) : Has P w K mg base (k + 2) "_law_wrong" 1 (spBody 5 (T__law_wrong)) :=
  has_of F sc__law_wrong gx b fun M hM cdv A outer s H E hr => by
    have nd := sc__law_wrong.nd
    have tk : Takes (bodyCx P w K mg base N__law_wrong "_law_wrong" st__law_wrong f cdv A outer s H E) (bodyW E) := takes_body
    have pw := passes_body (P := P) (w := w) (K := K) (mg := mg) (base := base) (N := N__law_wrong) (qual := "_law_wrong") (st := st__law_wrong) (f := f) (cdv := cdv) (A := A) (outer := outer) (s := s) (H := H) (E := E)
    exact
 (pus_cons
 (pu_set (fun _ he => ps_set (i := 1) nd rfl (by first | exact .inl rfl | exact .inr rfl) he) pu_int)
 (pus_cons
 (pu_for pw rfl (pui_enum (by rfl) m_enumerate (pu_var (pv 0))) (pug_tup rfl (pug_cons (pug_name (pg_name (i := 2) nd rfl (by first | exact .inl rfl | exact .inr rfl))) (pug_cons (pug_name (pg_name (i := 3) nd rfl (by first | exact .inl rfl | exact .inr rfl))) pug_nil)))
 (pus_one (pu_set (fun _ he => ps_set (i := 1) nd rfl (by first | exact .inl rfl | exact .inr rfl) he) (pu_bin od_add (pub_var (pv 1)) (pub_of (pu_callB cd_len2 (by rfl) m_len (by rfl) (pub_acons (pub_of (pu_fz (puo_comp (own := [("other", 4)]) rfl nd (pui_seq (pu_slice (tl := (some (dBin addD (dVarB 2) (dC (.int 1))))) (th := none) (pub_var (pv 0)) (pu_bin od_add (pub_var (pv 2)) (pub_of pu_int)) trivial)) (blkOk_by (by rfl)) (fun _ _ _ _ _ => (pug_name (pg_name (i := 4) nd rfl (by first | exact .inl rfl | exact .inr rfl)))) (fun _ _ _ _ _ => (puts_one (put_cmp od_lt (by rfl) (pub_var (pv 4)) (pub_var (pv 3))))) (fun _ _ _ _ _ => (pu_var (pv 4)))))) pub_anil)))))))
 (pus_one (pu_ret (pu_var (pv 1))))))
/-! ### _law_members -/
abbrev st__law_members : Stmt := topS 24
def N__law_members : List Str := ["rule", "found", "size", "longer", "row", "one", "long", "k", "a", "x", "turn", "b", "c", "d"]
theorem sc__law_members : FnScope N__law_members ["rule"] (defScope st__law_members) := ⟨rfl, rfl, rfl, by decide +kernel, rfl, by decide +kernel, by decide +kernel⟩
theorem W__law_members {P : Program} {w : World} {K : PySem.W.Frag} {mg : Str → Option Value} {base : Heap} {k : Nat} {sp__law_wrong sp__law_members : SpD} {f : Addr} {fd : FuncData} (F : Fun K "_law_members" "_law_members" st__law_members f fd) (gx : mg "_law_members" = some (.ref f)) (b : Binds K fd ["rule"] [])
    (m_range : mg "range" = none) (m_int : mg "int" = none) (h__law_wrong : Has P w K mg base (k + 1) "_law_wrong" 1 sp__law_wrong) (h__law_members : Has P w K mg base (k + 1) "_law_members" 1 sp__law_members) : Has P w K mg base (k + 2) "_law_members" 1 (spBody 14 (T__law_members sp__law_wrong sp__law_members)) :=
  has_of F sc__law_members gx b fun M hM cdv A outer s H E hr => by
    have nd := sc__law_members.nd
    have tk : Takes (bodyCx P w K mg base N__law_members "_law_members" st__law_members f cdv A outer s H E) (bodyW E) := takes_body
    have pw := passes_body (P := P) (w := w) (K := K) (mg := mg) (base := base) (N := N__law_members) (qual := "_law_members") (st := st__law_members) (f := f) (cdv := cdv) (A := A) (outer := outer) (s := s) (H := H) (E := E)
    exact
 (pus_cons
 (pu_if (put_cmp (od_eq (hu64 hr)) (by rfl) (pub_of (pu_ix (xd_it (hu65 hr) hM.h) (pub_var (pv 0)) (pub_of pu_int))) (pub_of pu_str))
 (pus_cons
 (pu_own (fun _ he => ps_set (i := 1) nd rfl (by first | exact .inl rfl | exact .inr rfl) he) (pu_lst (pu_acons (pu_tup pu_anil) pu_anil)))
 (pus_cons
 (pu_for pw rfl (pui_seq (pu_ix (xd_it (hu65 hr) hM.h) (pub_var (pv 0)) (pub_of pu_int))) (pug_name (pg_name (i := 2) nd rfl (by first | exact .inl rfl | exact .inr rfl)))
 (pus_cons
 (pu_own (fun _ he => ps_set (i := 3) nd rfl (by first | exact .inl rfl | exact .inr rfl) he) (pu_lst pu_anil))
 (pus_cons
 (pu_frS (i := 1) (pu_for pw rfl (pui_seq (pu_var (pv 1))) (pug_name (pg_name (i := 4) nd rfl (by first | exact .inl rfl | exact .inr rfl)))
 (pus_one (pu_ext (fun _ he => ps_expr (pe_bm PySem.F.plainAttrs_list PySem.F.slot_list_extend PySem.F.type_list_extend mt_extend (pv 3) (pa_cons he pa_nil))) (pu_fz (puo_comp (own := [("one", 5)]) rfl nd (pui_range1 (by rfl) m_range (pu_acons (pu_var (pv 2)) pu_anil)) (blkOk_by (by rfl)) (fun _ _ _ _ _ => (pug_name (pg_name (i := 5) nd rfl (by first | exact .inl rfl | exact .inr rfl)))) (fun _ _ _ _ _ => puts_nil) (fun _ _ _ _ _ => (pu_bin od_add (pub_var (pv 4)) (pub_of (pu_tup (pu_acons (pu_var (pv 5)) pu_anil)))))))))))
 (pus_one (pu_frS (i := 3) (pu_set (fun _ he => ps_set (i := 1) nd rfl (by first | exact .inl rfl | exact .inr rfl) he) (pu_var (pv 3))))))))
 (pus_one (pu_frS (i := 1) (pu_ret (pu_var (pv 1)))))))
 pus_nil)
 (pus_cons
 (pu_if (put_cmp (od_in2 (hu65 hr) hM.h) (by rfl) (pub_of (pu_ix (xd_it (hu65 hr) hM.h) (pub_var (pv 0)) (pub_of pu_int))) (pub_of (pu_tup (pu_acons pu_str (pu_acons pu_str pu_anil)))))
 (pus_cons
 (pu_set (fun _ he => ps_set (i := 6) nd rfl (by first | exact .inl rfl | exact .inr rfl) he) (pu_ifExp (put_cmp (od_eq (hu64 hr)) (by rfl) (pub_of (pu_ix (xd_it (hu65 hr) hM.h) (pub_var (pv 0)) (pub_of pu_int))) (pub_of pu_str)) (pu_ix (xd_it (hu65 hr) hM.h) (pub_var (pv 0)) (pub_of pu_int)) (pu_bin od_mul (pub_of pu_int) (pub_of (pu_ix (xd_it (hu65 hr) hM.h) (pub_var (pv 0)) (pub_of pu_int))))))
 (pus_one (pu_ret (pu_bin od_add (pub_of (pu_fz (puo_comp (own := [("k", 7)]) rfl nd (pui_range1 (by rfl) m_range (pu_acons (pu_var (pv 6)) pu_anil)) (blkOk_by (by rfl)) (fun _ _ _ _ _ => (pug_name (pg_name (i := 7) nd rfl (by first | exact .inl rfl | exact .inr rfl)))) (fun _ _ _ _ _ => puts_nil) (fun _ _ _ _ _ => (pu_tup (pu_acons (pu_var (pv 7)) (pu_acons pu_int pu_anil))))))) (pub_of (pu_fz (puo_comp (own := [("k", 7)]) rfl nd (pui_range1 (by rfl) m_range (pu_acons (pu_var (pv 6)) pu_anil)) (blkOk_by (by rfl)) (fun _ _ _ _ _ => (pug_name (pg_name (i := 7) nd rfl (by first | exact .inl rfl | exact .inr rfl)))) (fun _ _ _ _ _ => puts_nil) (fun _ _ _ _ _ => (pu_tup (pu_acons (pu_var (pv 7)) (pu_acons pu_int pu_anil)))))))))))
 pus_nil)
 (pus_cons
 (pu_if (put_cmp (od_eq (hu64 hr)) (by rfl) (pub_of (pu_ix (xd_it (hu65 hr) hM.h) (pub_var (pv 0)) (pub_of pu_int))) (pub_of pu_str))
 (pus_cons
 (pu_own (fun _ he => ps_set (i := 1) nd rfl (by first | exact .inl rfl | exact .inr rfl) he) (pu_lst pu_anil))
 (pus_cons
 (pu_for pw rfl (pui_range1 (by rfl) m_range (pu_acons (pu_ix (xd_it (hu65 hr) hM.h) (pub_var (pv 0)) (pub_of pu_int)) pu_anil)) (pug_name (pg_name (i := 8) nd rfl (by first | exact .inl rfl | exact .inr rfl)))
 (pus_one (pu_ext (fun _ he => ps_expr (pe_bm PySem.F.plainAttrs_list PySem.F.slot_list_extend PySem.F.type_list_extend mt_extend (pv 1) (pa_cons he pa_nil))) (pu_fz (puo_comp (own := [("x", 9)]) rfl nd (pui_range1 (by rfl) m_range (pu_acons (pu_ix (xd_it (hu65 hr) hM.h) (pub_var (pv 0)) (pub_of pu_int)) pu_anil)) (blkOk_by (by rfl)) (fun _ _ _ _ _ => (pug_name (pg_name (i := 9) nd rfl (by first | exact .inl rfl | exact .inr rfl)))) (fun _ _ _ _ _ => puts_nil) (fun _ _ _ _ _ => (pu_tup (pu_acons (pu_var (pv 8)) (pu_acons (pu_var (pv 9)) pu_anil)))))))))
 (pus_one (pu_frS (i := 1) (pu_ret (pu_var (pv 1)))))))
 pus_nil)
 (pus_cons
 (pu_if (put_cmp (od_eq (hu64 hr)) (by rfl) (pub_of (pu_ix (xd_it (hu65 hr) hM.h) (pub_var (pv 0)) (pub_of pu_int))) (pub_of pu_str))
 (pus_cons
 (pu_own (fun _ he => ps_set (i := 1) nd rfl (by first | exact .inl rfl | exact .inr rfl) he) (pu_lst (pu_acons (pu_tup pu_anil) pu_anil)))
 (pus_cons
 (pu_for pw rfl (pui_range1 (by rfl) m_range (pu_acons pu_int pu_anil)) (pug_name (pg_name (i := 10) nd rfl (by first | exact .inl rfl | exact .inr rfl)))
 (pus_cons
 (pu_own (fun _ he => ps_set (i := 3) nd rfl (by first | exact .inl rfl | exact .inr rfl) he) (pu_lst pu_anil))
 (pus_cons
 (pu_frS (i := 1) (pu_for pw rfl (pui_seq (pu_var (pv 1))) (pug_name (pg_name (i := 4) nd rfl (by first | exact .inl rfl | exact .inr rfl)))
 (pus_one (pu_ext (fun _ he => ps_expr (pe_bm PySem.F.plainAttrs_list PySem.F.slot_list_extend PySem.F.type_list_extend mt_extend (pv 3) (pa_cons he pa_nil))) (pu_fz (puo_comp (own := [("one", 5)]) rfl nd (pui_range1 (by rfl) m_range (pu_acons pu_int pu_anil)) (blkOk_by (by rfl)) (fun _ _ _ _ _ => (pug_name (pg_name (i := 5) nd rfl (by first | exact .inl rfl | exact .inr rfl)))) (fun _ _ _ _ _ => (puts_one (put_cmp (od_notIn2 (hu65 hr) hM.h) (by rfl) (pub_var (pv 5)) (pub_var (pv 4))))) (fun _ _ _ _ _ => (pu_bin od_add (pub_var (pv 4)) (pub_of (pu_tup (pu_acons (pu_var (pv 5)) pu_anil)))))))))))
 (pus_one (pu_frS (i := 3) (pu_set (fun _ he => ps_set (i := 1) nd rfl (by first | exact .inl rfl | exact .inr rfl) he) (pu_var (pv 3))))))))
 (pus_one (pu_frS (i := 1) (pu_ret (pu_fz (puo_comp (own := [("row", 4)]) rfl nd (pui_seq (pu_var (pv 1))) (blkOk_by (by rfl)) (fun _ _ _ _ _ => (pug_name (pg_name (i := 4) nd rfl (by first | exact .inl rfl | exact .inr rfl)))) (fun _ _ _ _ _ => (puts_one (put_w (puw_or (put_cmp (od_eq (hu64 hr)) (by rfl) (pub_of (pu_ix (xd_it (hu65 hr) hM.h) (pub_var (pv 0)) (pub_of pu_int))) (pub_of pu_int)) (puw_or1 (put_cmp (od_eq (hu64 hr)) (by rfl) (pub_of (pu_bin od_mod (pub_of (pu_callTy cd_int (by rfl) m_int (by rfl) (pub_acons (pub_of (pu_fun h__law_wrong hM (rm hr) takes0 (by rfl) (pu_acons (pu_var (pv 4)) pu_anil))) pub_anil))) (pub_of pu_int))) (pub_of pu_int))))))) (fun _ _ _ _ _ => (pu_var (pv 4))))))))))
 pus_nil)
 (pus_cons
 (pu_if (put_cmp (od_eq (hu64 hr)) (by rfl) (pub_of (pu_ix (xd_it (hu65 hr) hM.h) (pub_var (pv 0)) (pub_of pu_int))) (pub_of pu_str))
 (pus_one (pu_ret (pu_fun h__law_members hM (rm hr) tk (by rfl) (pu_acons (pu_tup (pu_acons pu_str (pu_acons (pu_tup (pu_acons pu_int (pu_acons pu_int (pu_acons pu_int pu_anil)))) pu_anil))) pu_anil))))
 pus_nil)
 (pus_cons
 (pu_own (fun _ he => ps_set (i := 1) nd rfl (by first | exact .inl rfl | exact .inr rfl) he) (pu_lst pu_anil))
 (pus_cons
 (pu_for pw rfl (pui_seq (pu_fun h__law_members hM (rm hr) tk (by rfl) (pu_acons (pu_tup (pu_acons pu_str (pu_acons (pu_tup (pu_acons pu_int (pu_acons pu_int (pu_acons pu_int (pu_acons pu_int pu_anil))))) pu_anil))) pu_anil))) (pug_tup rfl (pug_cons (pug_name (pg_name (i := 8) nd rfl (by first | exact .inl rfl | exact .inr rfl))) (pug_cons (pug_name (pg_name (i := 11) nd rfl (by first | exact .inl rfl | exact .inr rfl))) (pug_cons (pug_name (pg_name (i := 12) nd rfl (by first | exact .inl rfl | exact .inr rfl))) (pug_cons (pug_name (pg_name (i := 13) nd rfl (by first | exact .inl rfl | exact .inr rfl))) pug_nil)))))
 (pus_one (pu_ext (fun _ he => ps_expr (pe_bm PySem.F.plainAttrs_list PySem.F.slot_list_extend PySem.F.type_list_extend mt_extend (pv 1) (pa_cons he pa_nil))) (pu_ifExp (put_cmp (od_eq (hu64 hr)) (by rfl) (pub_of (pu_bin od_mod (pub_of (pu_callTy cd_int (by rfl) m_int (by rfl) (pub_acons (pub_of (pu_bin od_sub (pub_of (pu_bin od_mul (pub_var (pv 8)) (pub_var (pv 13)))) (pub_of (pu_bin od_mul (pub_var (pv 11)) (pub_var (pv 12)))))) pub_anil))) (pub_of pu_int))) (pub_of pu_int)) (pu_fz (pu_lst (pu_acons (pu_tup (pu_acons (pu_tup (pu_acons (pu_var (pv 8)) (pu_acons (pu_var (pv 11)) pu_anil))) (pu_acons (pu_tup (pu_acons (pu_var (pv 12)) (pu_acons (pu_var (pv 13)) pu_anil))) pu_anil))) pu_anil))) (pu_fz (pu_lst pu_anil))))))
 (pus_one (pu_frS (i := 1) (pu_ret (pu_bin od_add (pub_of (pu_fz (pu_lst (pu_acons (pu_tup (pu_acons (pu_tup (pu_acons pu_int (pu_acons pu_int pu_anil))) (pu_acons (pu_tup (pu_acons pu_int (pu_acons pu_int pu_anil))) pu_anil))) pu_anil)))) (pub_of (pu_fz (puo_comp (own := [("one", 5)]) rfl nd (pui_seq (pu_var (pv 1))) (blkOk_by (by rfl)) (fun _ _ _ _ _ => (pug_name (pg_name (i := 5) nd rfl (by first | exact .inl rfl | exact .inr rfl)))) (fun _ _ _ _ _ => (puts_one (put_cmp (od_ne (hu64 hr)) (by rfl) (pub_var (pv 5)) (pub_of (pu_tup (pu_acons (pu_tup (pu_acons pu_int (pu_acons pu_int pu_anil))) (pu_acons (pu_tup (pu_acons pu_int (pu_acons pu_int pu_anil))) pu_anil))))))) (fun _ _ _ _ _ => (pu_var (pv 5)))))))))))))))))
/-! ### _law_times -/
abbrev st__law_times : Stmt := topS 26
def N__law_times : List Str := ["rule", "x", "y", "word", "a", "b", "size", "more", "here", "turn", "one", "rows", "row", "at"]
theorem sc__law_times : FnScope N__law_times ["rule", "x", "y"] (defScope st__law_times) := ⟨rfl, rfl, rfl, by decide +kernel, rfl, by decide +kernel, by decide +kernel⟩
theorem W__law_times {P : Program} {w : World} {K : PySem.W.Frag} {mg : Str → Option Value} {base : Heap} {k : Nat} {f : Addr} {fd : FuncData} (F : Fun K "_law_times" "_law_times" st__law_times f fd) (gx : mg "_law_times" = some (.ref f)) (b : Binds K fd ["rule", "x", "y"] [])
    (m_tuple : mg "tuple" = none) (m_zip : mg "zip" = none) (m_int : mg "int" = none) (m_range : mg "range" = none) : Has P w K mg base (k + 2) "_law_times" 3 (spBody 14 (T__law_times)) :=
  has_of F sc__law_times gx b fun M hM cdv A outer s H E hr => by
    have nd := sc__law_times.nd
    have tk : Takes (bodyCx P w K mg base N__law_times "_law_times" st__law_times f cdv A outer s H E) (bodyW E) := takes_body
    have pw := passes_body (P := P) (w := w) (K := K) (mg := mg) (base := base) (N := N__law_times) (qual := "_law_times") (st := st__law_times) (f := f) (cdv := cdv) (A := A) (outer := outer) (s := s) (H := H) (E := E)
    exact
 (pus_cons
 (pu_set (fun _ he => ps_set (i := 3) nd rfl (by first | exact .inl rfl | exact .inr rfl) he) (pu_ix (xd_it (hu65 hr) hM.h) (pub_var (pv 0)) (pub_of pu_int)))
 (pus_cons
 (pu_if (put_cmp (od_eq (hu64 hr)) (by rfl) (pub_var (pv 3)) (pub_of pu_str))
 (pus_one (pu_ret (pu_callTy cd_tuple (by rfl) m_tuple (by rfl) (pub_acons (pub_of (pu_fz (puo_comp (own := [("a", 4), ("b", 5), ("size", 6)]) rfl nd (pui_zip3 (by rfl) m_zip (pu_var (pv 1)) (pu_var (pv 2)) (pu_ix (xd_it (hu65 hr) hM.h) (pub_var (pv 0)) (pub_of pu_int))) (blkOk_by (by rfl)) (fun _ _ _ _ _ => (pug_tup rfl (pug_cons (pug_name (pg_name (i := 4) nd rfl (by first | exact .inl rfl | exact .inr rfl))) (pug_cons (pug_name (pg_name (i := 5) nd rfl (by first | exact .inl rfl | exact .inr rfl))) (pug_cons (pug_name (pg_name (i := 6) nd rfl (by first | exact .inl rfl | exact .inr rfl))) pug_nil))))) (fun _ _ _ _ _ => puts_nil) (fun _ _ _ _ _ => (pu_bin od_mod (pub_of (pu_callTy cd_int (by rfl) m_int (by rfl) (pub_acons (pub_of (pu_bin od_add (pub_var (pv 4)) (pub_var (pv 5)))) pub_anil))) (pub_var (pv 6))))))) pub_anil))))
 pus_nil)
 (pus_cons
 (pu_if (put_cmp (od_eq (hu64 hr)) (by rfl) (pub_var (pv 3)) (pub_of pu_str))
 (pus_one (pu_ret (pu_tup (pu_acons (pu_bin od_mod (pub_of (pu_callTy cd_int (by rfl) m_int (by rfl) (pub_acons (pub_of (pu_bin od_add (pub_of (pu_ix (xd_it (hu65 hr) hM.h) (pub_var (pv 1)) (pub_of pu_int))) (pub_of (pu_ifExp (put_cmp (od_eq (hu64 hr)) (by rfl) (pub_of (pu_ix (xd_it (hu65 hr) hM.h) (pub_var (pv 1)) (pub_of pu_int))) (pub_of pu_int)) (pu_ix (xd_it (hu65 hr) hM.h) (pub_var (pv 2)) (pub_of pu_int)) (pu_bin od_sub (pub_of pu_int) (pub_of (pu_ix (xd_it (hu65 hr) hM.h) (pub_var (pv 2)) (pub_of pu_int)))))))) pub_anil))) (pub_of (pu_ix (xd_it (hu65 hr) hM.h) (pub_var (pv 0)) (pub_of pu_int)))) (pu_acons (pu_bin od_mod (pub_of (pu_callTy cd_int (by rfl) m_int (by rfl) (pub_acons (pub_of (pu_bin od_add (pub_of (pu_ix (xd_it (hu65 hr) hM.h) (pub_var (pv 1)) (pub_of pu_int))) (pub_of (pu_ix (xd_it (hu65 hr) hM.h) (pub_var (pv 2)) (pub_of pu_int))))) pub_anil))) (pub_of pu_int)) pu_anil)))))
 pus_nil)
 (pus_cons
 (pu_if (put_cmp (od_eq (hu64 hr)) (by rfl) (pub_var (pv 3)) (pub_of pu_str))
 (pus_cons
 (pu_set (fun _ he => ps_set (i := 7) nd rfl (by first | exact .inl rfl | exact .inr rfl) he) (pu_ifExp (put_cmp (od_eq (hu64 hr)) (by rfl) (pub_of (pu_bin od_add (pub_of (pu_ix (xd_it (hu65 hr) hM.h) (pub_var (pv 1)) (pub_of pu_int))) (pub_of (pu_ix (xd_it (hu65 hr) hM.h) (pub_var (pv 2)) (pub_of pu_int))))) (pub_of pu_int)) (pu_ix (xd_it (hu65 hr) hM.h) (pub_var (pv 0)) (pub_of pu_int)) pu_int))
 (pus_one (pu_ret (pu_tup (pu_acons (pu_bin od_mod (pub_of (pu_callTy cd_int (by rfl) m_int (by rfl) (pub_acons (pub_of (pu_bin od_add (pub_of (pu_bin od_add (pub_of (pu_ix (xd_it (hu65 hr) hM.h) (pub_var (pv 1)) (pub_of pu_int))) (pub_of (pu_ifExp (put_cmp (od_eq (hu64 hr)) (by rfl) (pub_of (pu_ix (xd_it (hu65 hr) hM.h) (pub_var (pv 1)) (pub_of pu_int))) (pub_of pu_int)) (pu_ix (xd_it (hu65 hr) hM.h) (pub_var (pv 2)) (pub_of pu_int)) (pu_bin od_sub (pub_of pu_int) (pub_of (pu_ix (xd_it (hu65 hr) hM.h) (pub_var (pv 2)) (pub_of pu_int)))))))) (pub_var (pv 7)))) pub_anil))) (pub_of (pu_callTy cd_int (by rfl) m_int (by rfl) (pub_acons (pub_of (pu_bin od_mul (pub_of pu_int) (pub_of (pu_ix (xd_it (hu65 hr) hM.h) (pub_var (pv 0)) (pub_of pu_int))))) pub_anil)))) (pu_acons (pu_bin od_mod (pub_of (pu_callTy cd_int (by rfl) m_int (by rfl) (pub_acons (pub_of (pu_bin od_add (pub_of (pu_ix (xd_it (hu65 hr) hM.h) (pub_var (pv 1)) (pub_of pu_int))) (pub_of (pu_ix (xd_it (hu65 hr) hM.h) (pub_var (pv 2)) (pub_of pu_int))))) pub_anil))) (pub_of pu_int)) pu_anil))))))
 pus_nil)
 (pus_cons
 (pu_if (put_cmp (od_eq (hu64 hr)) (by rfl) (pub_var (pv 3)) (pub_of pu_str))
 (pus_cons
 (pu_set (fun _ he => ps_set (i := 8) nd rfl (by first | exact .inl rfl | exact .inr rfl) he) (pu_ix (xd_it (hu65 hr) hM.h) (pub_var (pv 1)) (pub_of pu_int)))
 (pus_cons
 (pu_for pw rfl (pui_range1 (by rfl) m_range (pu_acons (pu_ix (xd_it (hu65 hr) hM.h) (pub_var (pv 2)) (pub_of pu_int)) pu_anil)) (pug_name (pg_name (i := 9) nd rfl (by first | exact .inl rfl | exact .inr rfl)))
 (pus_one (pu_set (fun _ he => ps_set (i := 8) nd rfl (by first | exact .inl rfl | exact .inr rfl) he) (pu_bin od_mod (pub_of (pu_callTy cd_int (by rfl) m_int (by rfl) (pub_acons (pub_of (pu_bin od_mul (pub_var (pv 8)) (pub_of (pu_ix (xd_it (hu65 hr) hM.h) (pub_var (pv 0)) (pub_of pu_int))))) pub_anil))) (pub_of (pu_ix (xd_it (hu65 hr) hM.h) (pub_var (pv 0)) (pub_of pu_int)))))))
 (pus_one (pu_ret (pu_tup (pu_acons (pu_bin od_mod (pub_of (pu_callTy cd_int (by rfl) m_int (by rfl) (pub_acons (pub_of (pu_bin od_add (pub_of (pu_ix (xd_it (hu65 hr) hM.h) (pub_var (pv 1)) (pub_of pu_int))) (pub_of (pu_ix (xd_it (hu65 hr) hM.h) (pub_var (pv 2)) (pub_of pu_int))))) pub_anil))) (pub_of (pu_ix (xd_it (hu65 hr) hM.h) (pub_var (pv 0)) (pub_of pu_int)))) (pu_acons (pu_bin od_mod (pub_of (pu_callTy cd_int (by rfl) m_int (by rfl) (pub_acons (pub_of (pu_bin od_add (pub_var (pv 8)) (pub_of (pu_ix (xd_it (hu65 hr) hM.h) (pub_var (pv 2)) (pub_of pu_int))))) pub_anil))) (pub_of (pu_ix (xd_it (hu65 hr) hM.h) (pub_var (pv 0)) (pub_of pu_int)))) pu_anil)))))))
 pus_nil)
 (pus_cons
 (pu_if (put_cmp (od_eq (hu64 hr)) (by rfl) (pub_var (pv 3)) (pub_of pu_str))
 (pus_one (pu_ret (pu_callTy cd_tuple (by rfl) m_tuple (by rfl) (pub_acons (pub_of (pu_fz (puo_comp (own := [("one", 10)]) rfl nd (pui_seq (pu_var (pv 1))) (blkOk_by (by rfl)) (fun _ _ _ _ _ => (pug_name (pg_name (i := 10) nd rfl (by first | exact .inl rfl | exact .inr rfl)))) (fun _ _ _ _ _ => puts_nil) (fun _ _ _ _ _ => (pu_ix (xd_it (hu65 hr) hM.h) (pub_var (pv 2)) (pub_var (pv 10))))))) pub_anil))))
 pus_nil)
 (pus_cons
 (pu_if (put_cmp (od_eq (hu64 hr)) (by rfl) (pub_var (pv 3)) (pub_of pu_str))
 (pus_one (pu_ret (pu_tup (pu_acons (pu_bin od_mod (pub_of (pu_callTy cd_int (by rfl) m_int (by rfl) (pub_acons (pub_of (pu_bin od_add (pub_of (pu_ix (xd_it (hu65 hr) hM.h) (pub_var (pv 1)) (pub_of pu_int))) (pub_of (pu_ix (xd_it (hu65 hr) hM.h) (pub_var (pv 2)) (pub_of pu_int))))) pub_anil))) (pub_of pu_int)) (pu_acons (pu_bin od_mod (pub_of (pu_callTy cd_int (by rfl) m_int (by rfl) (pub_acons (pub_of (pu_bin od_add (pub_of (pu_ix (xd_it (hu65 hr) hM.h) (pub_var (pv 1)) (pub_of pu_int))) (pub_of (pu_ix (xd_it (hu65 hr) hM.h) (pub_var (pv 2)) (pub_of pu_int))))) pub_anil))) (pub_of pu_int)) (pu_acons (pu_bin od_mod (pub_of (pu_callTy cd_int (by rfl) m_int (by rfl) (pub_acons (pub_of (pu_bin od_add (pub_of (pu_bin od_add (pub_of (pu_ix (xd_it (hu65 hr) hM.h) (pub_var (pv 1)) (pub_of pu_int))) (pub_of (pu_ix (xd_it (hu65 hr) hM.h) (pub_var (pv 2)) (pub_of pu_int))))) (pub_of (pu_bin od_mul (pub_of (pu_ix (xd_it (hu65 hr) hM.h) (pub_var (pv 1)) (pub_of pu_int))) (pub_of (pu_ix (xd_it (hu65 hr) hM.h) (pub_var (pv 2)) (pub_of pu_int))))))) pub_anil))) (pub_of pu_int)) pu_anil))))))
 pus_nil)
 (pus_cons
 (pu_own (fun _ he => ps_set (i := 11) nd rfl (by first | exact .inl rfl | exact .inr rfl) he) (pu_lst pu_anil))
 (pus_cons
 (pu_for pw rfl (pui_seq (pu_var (pv 1))) (pug_name (pg_name (i := 12) nd rfl (by first | exact .inl rfl | exact .inr rfl)))
 (pus_one (pu_app (fun _ he => ps_expr (pe_bm PySem.F.plainAttrs_list PySem.F.slot_list_append PySem.F.type_list_append mt_append (pv 11) (pa_cons he pa_nil))) (pu_callTy cd_tuple (by rfl) m_tuple (by rfl) (pub_acons (pub_of (pu_fz (puo_comp (own := [("at", 13)]) rfl nd (pui_range1 (by rfl) m_range (pu_acons pu_int pu_anil)) (blkOk_by (by rfl)) (fun _ _ _ _ _ => (pug_name (pg_name (i := 13) nd rfl (by first | exact .inl rfl | exact .inr rfl)))) (fun _ _ _ _ _ => puts_nil) (fun _ _ _ _ _ => (pu_bin od_mod (pub_of (pu_callTy cd_int (by rfl) m_int (by rfl) (pub_acons (pub_of (pu_bin od_add (pub_of (pu_bin od_mul (pub_of (pu_ix (xd_it (hu65 hr) hM.h) (pub_var (pv 12)) (pub_of pu_int))) (pub_of (pu_ix (xd_it (hu65 hr) hM.h) (pub_of (pu_ix (xd_it (hu65 hr) hM.h) (pub_var (pv 2)) (pub_of pu_int))) (pub_var (pv 13)))))) (pub_of (pu_bin od_mul (pub_of (pu_ix (xd_it (hu65 hr) hM.h) (pub_var (pv 12)) (pub_of pu_int))) (pub_of (pu_ix (xd_it (hu65 hr) hM.h) (pub_of (pu_ix (xd_it (hu65 hr) hM.h) (pub_var (pv 2)) (pub_of pu_int))) (pub_var (pv 13)))))))) pub_anil))) (pub_of pu_int)))))) pub_anil)))))
 (pus_one (pu_ret (pu_callTy cd_tuple (by rfl) m_tuple (by rfl) (pub_acons (pub_var (pv 11)) pub_anil)))))))))))))
/-! ### _law_table -/
abbrev st__law_table : Stmt := topS 27
def N__law_table : List Str := ["rule", "members", "numbers", "at", "one", "y", "x"]
theorem sc__law_table : FnScope N__law_table ["rule"] (defScope st__law_table) := ⟨rfl, rfl, rfl, by decide +kernel, rfl, by decide +kernel, by decide +kernel⟩
theorem W__law_table {P : Program} {w : World} {K : PySem.W.Frag} {mg : Str → Option Value} {base : Heap} {k : Nat} {sp__law_members sp__law_times : SpD} {f : Addr} {fd : FuncData} (F : Fun K "_law_table" "_law_table" st__law_table f fd) (gx : mg "_law_table" = some (.ref f)) (b : Binds K fd ["rule"] [])
    (h__law_members : Has P w K mg base (k + 1) "_law_members" 1 sp__law_members) (m_dict : mg "dict" = none) (m_enumerate : mg "enumerate" = none) (m_tuple : mg "tuple" = none) (h__law_times : Has P w K mg base (k + 1) "_law_times" 3 sp__law_times) : Has P w K mg base (k + 2) "_law_table" 1 (spBody 7 (T__law_table sp__law_members sp__law_times)) :=
  has_of F sc__law_table gx b fun M hM cdv A outer s H E hr => by
    have nd := sc__law_table.nd
    have tk : Takes (bodyCx P w K mg base N__law_table "_law_table" st__law_table f cdv A outer s H E) (bodyW E) := takes_body
    have pw := passes_body (P := P) (w := w) (K := K) (mg := mg) (base := base) (N := N__law_table) (qual := "_law_table") (st := st__law_table) (f := f) (cdv := cdv) (A := A) (outer := outer) (s := s) (H := H) (E := E)
    exact
 (pus_cons
 (pu_set (fun _ he => ps_set (i := 1) nd rfl (by first | exact .inl rfl | exact .inr rfl) he) (pu_fun h__law_members hM (rm hr) tk (by rfl) (pu_acons (pu_var (pv 0)) pu_anil)))
 (pus_cons
 (pu_set (fun _ he => ps_set (i := 2) nd rfl (by first | exact .inl rfl | exact .inr rfl) he) (pu_callTy (cd_dictT rfl (hu65 hr) hM.h) (by rfl) m_dict (by rfl) (pub_acons (pub_of (pu_fz (puo_comp (own := [("at", 3), ("one", 4)]) rfl nd (pui_enum (by rfl) m_enumerate (pu_var (pv 1))) (blkOk_by (by rfl)) (fun _ _ _ _ _ => (pug_tup rfl (pug_cons (pug_name (pg_name (i := 3) nd rfl (by first | exact .inl rfl | exact .inr rfl))) (pug_cons (pug_name (pg_name (i := 4) nd rfl (by first | exact .inl rfl | exact .inr rfl))) pug_nil)))) (fun _ _ _ _ _ => puts_nil) (fun _ _ _ _ _ => (pu_tup (pu_acons (pu_var (pv 4)) (pu_acons (pu_var (pv 3)) pu_anil))))))) pub_anil)))
 (pus_one (pu_ret (pu_callTy cd_tuple (by rfl) m_tuple (by rfl) (pub_acons (pub_of (pu_fz (puo_comp (own := [("x", 6)]) rfl nd (pui_seq (pu_var (pv 1))) (blkOk_by (by rfl)) (fun _ _ _ _ _ => (pug_name (pg_name (i := 6) nd rfl (by first | exact .inl rfl | exact .inr rfl)))) (fun _ _ _ _ _ => puts_nil) (fun _ _ _ _ _ => (pu_callTy cd_tuple (by rfl) m_tuple (by rfl) (pub_acons (pub_of (pu_fz (puo_comp (own := [("y", 5)]) rfl nd (pui_seq (pu_var (pv 1))) (blkOk_by (by rfl)) (fun _ _ _ _ _ => (pug_name (pg_name (i := 5) nd rfl (by first | exact .inl rfl | exact .inr rfl)))) (fun _ _ _ _ _ => puts_nil) (fun _ _ _ _ _ => (pu_ix (xd_it (hu65 hr) hM.h) (pub_var (pv 2)) (pub_of (pu_fun h__law_times hM (rm hr) takes0 (by rfl) (pu_acons (pu_var (pv 0)) (pu_acons (pu_var (pv 6)) (pu_acons (pu_var (pv 5)) pu_anil)))))))))) pub_anil)))))) pub_anil))))))
/-! ### _law_called -/
abbrev st__law_called : Stmt := topS 30
def N__law_called : List Str := ["table", "told", "places", "at", "one", "y", "x"]
theorem sc__law_called : FnScope N__law_called ["table", "told"] (defScope st__law_called) := ⟨rfl, rfl, rfl, by decide +kernel, rfl, by decide +kernel, by decide +kernel⟩
theorem W__law_called {P : Program} {w : World} {K : PySem.W.Frag} {mg : Str → Option Value} {base : Heap} {k : Nat} {f : Addr} {fd : FuncData} (F : Fun K "_law_called" "_law_called" st__law_called f fd) (gx : mg "_law_called" = some (.ref f)) (b : Binds K fd ["table", "told"] [])
    (m_len : mg "len" = none) (m_enumerate : mg "enumerate" = none) (m_tuple : mg "tuple" = none) : Has P w K mg base (k + 2) "_law_called" 2 (spBody 7 (T__law_called)) :=
  has_of F sc__law_called gx b fun M hM cdv A outer s H E hr => by
    have nd := sc__law_called.nd
    have tk : Takes (bodyCx P w K mg base N__law_called "_law_called" st__law_called f cdv A outer s H E) (bodyW E) := takes_body
    have pw := passes_body (P := P) (w := w) (K := K) (mg := mg) (base := base) (N := N__law_called) (qual := "_law_called") (st := st__law_called) (f := f) (cdv := cdv) (A := A) (outer := outer) (s := s) (H := H) (E := E)
    exact
 (pus_cons
 (pu_own (fun _ he => ps_set (i := 2) nd rfl (by first | exact .inl rfl | exact .inr rfl) he) (puo_bin od_mulO (pub_of (pu_fz (pu_lst (pu_acons pu_int pu_anil)))) (pub_of (pu_callB cd_len2 (by rfl) m_len (by rfl) (pub_acons (pub_var (pv 1)) pub_anil)))))
 (pus_cons
 (pu_for pw rfl (pui_enum (by rfl) m_enumerate (pu_var (pv 1))) (pug_tup rfl (pug_cons (pug_name (pg_name (i := 3) nd rfl (by first | exact .inl rfl | exact .inr rfl))) (pug_cons (pug_name (pg_name (i := 4) nd rfl (by first | exact .inl rfl | exact .inr rfl))) pug_nil)))
 (pus_one (pu_setIx (fun _ _ he hi => ps_asg he (pg_sub (pv 2) hi set_list) (by rfl) (by rfl) (by rfl)) (pu_var (pv 3)) (pu_var (pv 4)))))
 (pus_one (pu_ret (pu_callTy cd_tuple (by rfl) m_tuple (by rfl) (pub_acons (pub_of (pu_fz (puo_comp (own := [("x", 6)]) rfl nd (pui_seq (pu_var (pv 1))) (blkOk_by (by rfl)) (fun _ _ _ _ _ => (pug_name (pg_name (i := 6) nd rfl (by first | exact .inl rfl | exact .inr rfl)))) (fun _ _ _ _ _ => puts_nil) (fun _ _ _ _ _ => (pu_callTy cd_tuple (by rfl) m_tuple (by rfl) (pub_acons (pub_of (pu_fz (puo_comp (own := [("y", 5)]) rfl nd (pui_seq (pu_var (pv 1))) (blkOk_by (by rfl)) (fun _ _ _ _ _ => (pug_name (pg_name (i := 5) nd rfl (by first | exact .inl rfl | exact .inr rfl)))) (fun _ _ _ _ _ => puts_nil) (fun _ _ _ _ _ => (pu_ix (xd_it (hu65 hr) hM.h) (pub_var (pv 2)) (pub_of (pu_ix (xd_it (hu65 hr) hM.h) (pub_of (pu_ix (xd_it (hu65 hr) hM.h) (pub_var (pv 0)) (pub_var (pv 6)))) (pub_var (pv 5))))))))) pub_anil)))))) pub_anil))))))
/-! ### _law_names -/
abbrev st__law_names : Stmt := topS 29
def N__law_names : List Str := ["hand", "many", "left", "found"]
theorem sc__law_names : FnScope N__law_names ["hand", "many"] (defScope st__law_names) := ⟨rfl, rfl, rfl, by decide +kernel, rfl, by decide +kernel, by decide +kernel⟩
theorem W__law_names {P : Program} {w : World} {K : PySem.W.Frag} {mg : Str → Option Value} {base : Heap} {k : Nat} {sp__law_draw : SpD} {f : Addr} {fd : FuncData} (F : Fun K "_law_names" "_law_names" st__law_names f fd) (gx : mg "_law_names" = some (.ref f)) (b : Binds K fd ["hand", "many"] [])
    (m_range : mg "range" = none) (m_list : mg "list" = none) (m_len : mg "len" = none) (h__law_draw : Has P w K mg base (k + 1) "_law_draw" 2 sp__law_draw) (m_tuple : mg "tuple" = none) : Has P w K mg base (k + 2) "_law_names" 2 (spBody 4 (T__law_names sp__law_draw)) :=
  has_of F sc__law_names gx b fun M hM cdv A outer s H E hr => by
    have nd := sc__law_names.nd
    have tk : Takes (bodyCx P w K mg base N__law_names "_law_names" st__law_names f cdv A outer s H E) (bodyW E) := takes_body
    have pw := passes_body (P := P) (w := w) (K := K) (mg := mg) (base := base) (N := N__law_names) (qual := "_law_names") (st := st__law_names) (f := f) (cdv := cdv) (A := A) (outer := outer) (s := s) (H := H) (E := E)
    exact
 (pus_cons
 (pu_par (i := 2) (j := 3) (k := .o) (l := .o) rfl nd rfl rfl (by decide) rfl rfl (puo_listRg rfl (by rfl) m_list (pur_2 (by rfl) m_range pu_int (pu_var (pv 1)))) (pu_lst (pu_acons pu_int pu_anil)) (by rfl))
 (pus_cons
 (pu_while pw (put_cmp od_gt (by rfl) (pub_of (pu_callB cd_len2 (by rfl) m_len (by rfl) (pub_acons (pub_var (pv 2)) pub_anil))) (pub_of pu_int))
 (pus_one (pu_appPop (fun _ he => ps_expr (pe_bm PySem.F.plainAttrs_list PySem.F.slot_list_append PySem.F.type_list_append mt_append (pv 3) (pa_cons (pe_bm PySem.F.plainAttrs_list PySem.F.slot_list_pop PySem.F.type_list_pop mt_popAt (pv 2) (pa_cons he pa_nil)) pa_nil))) (pu_fun h__law_draw hM (rm hr) tk (by rfl) (pu_acons (pu_var (pv 0)) (pu_acons (pu_callB cd_len2 (by rfl) m_len (by rfl) (pub_acons (pub_var (pv 2)) pub_anil)) pu_anil))) (by decide))))
 (pus_one (pu_ret (pu_callTy cd_tuple (by rfl) m_tuple (by rfl) (pub_acons (pub_var (pv 3)) pub_anil))))))
/-! ### is_tuple -/
abbrev st_is_tuple : Stmt := topS 3
def N_is_tuple : List Str := ["thing", "least", "most"]
theorem sc_is_tuple : FnScope N_is_tuple ["thing", "least", "most"] (defScope st_is_tuple) := ⟨rfl, rfl, rfl, by decide +kernel, rfl, by decide +kernel, by decide +kernel⟩
theorem W_is_tuple {P : Program} {w : World} {K : PySem.W.Frag} {mg : Str → Option Value} {base : Heap} {k : Nat} {f : Addr} {fd : FuncData} (F : Fun K "is_tuple" "is_tuple" st_is_tuple f fd) (gx : mg "is_tuple" = some (.ref f)) (b : Binds K fd ["thing", "least", "most"] [])
    (m_isinstance : mg "isinstance" = none) (m_tuple : mg "tuple" = none) (m_len : mg "len" = none) : Has P w K mg base (k + 2) "is_tuple" 3 (spBody 3 (T_is_tuple)) :=
  has_of F sc_is_tuple gx b fun M hM cdv A outer s H E hr => by
    have nd := sc_is_tuple.nd
    have tk : Takes (bodyCx P w K mg base N_is_tuple "is_tuple" st_is_tuple f cdv A outer s H E) (bodyW E) := takes_body
    have pw := passes_body (P := P) (w := w) (K := K) (mg := mg) (base := base) (N := N_is_tuple) (qual := "is_tuple") (st := st_is_tuple) (f := f) (cdv := cdv) (A := A) (outer := outer) (s := s) (H := H) (E := E)
    exact
 (pus_one (pu_ret (pu_and (pu_callB cd_isi (by rfl) m_isinstance (by rfl) (pub_acons (pub_var (pv 0)) (pub_acons (pub_of (pu_ty (T := "tuple") (by rfl) m_tuple (by rfl))) pub_anil))) (pu_one (pu_chain od_le od_le (pub_var (pv 1)) (pub_of (pu_callB cd_len2 (by rfl) m_len (by rfl) (pub_acons (pub_var (pv 0)) pub_anil))) (pub_var (pv 2)))))))
-- NOT SERVED BadGroup.__init__: stmt super().__init__('BadGroup')
/-! ### goes_together -/
abbrev st_goes_together : Stmt := topS 10
def N_goes_together : List Str := ["table", "row", "b", "one", "far"]
theorem sc_goes_together : FnScope N_goes_together ["table"] (defScope st_goes_together) := ⟨rfl, rfl, rfl, by decide +kernel, rfl, by decide +kernel, by decide +kernel⟩
theorem W_goes_together {P : Program} {w : World} {K : PySem.W.Frag} {mg : Str → Option Value} {base : Heap} {k : Nat} {f : Addr} {fd : FuncData} (F : Fun K "goes_together" "goes_together" st_goes_together f fd) (gx : mg "goes_together" = some (.ref f)) (b : Binds K fd ["table"] [])
    (m_enumerate : mg "enumerate" = none) (m_tuple : mg "tuple" = none) : Has P w K mg base (k + 2) "goes_together" 1 (spBody 5 (T_goes_together)) :=
  has_of F sc_goes_together gx b fun M hM cdv A outer s H E hr => by
    have nd := sc_goes_together.nd
    have tk : Takes (bodyCx P w K mg base N_goes_together "goes_together" st_goes_together f cdv A outer s H E) (bodyW E) := takes_body
    have pw := passes_body (P := P) (w := w) (K := K) (mg := mg) (base := base) (N := N_goes_together) (qual := "goes_together") (st := st_goes_together) (f := f) (cdv := cdv) (A := A) (outer := outer) (s := s) (H := H) (E := E)
    exact
 (pus_cons
 (pu_for pw rfl (pui_seq (pu_var (pv 0))) (pug_name (pg_name (i := 1) nd rfl (by first | exact .inl rfl | exact .inr rfl)))
 (pus_one (pu_for pw rfl (pui_enum (by rfl) m_enumerate (pu_var (pv 1))) (pug_tup rfl (pug_cons (pug_name (pg_name (i := 2) nd rfl (by first | exact .inl rfl | exact .inr rfl))) (pug_cons (pug_name (pg_name (i := 3) nd rfl (by first | exact .inl rfl | exact .inr rfl))) pug_nil)))
 (pus_one (pu_if (put_cmp (od_ne (hu64 hr)) (by rfl) (pub_of (pu_callTy cd_tuple (by rfl) m_tuple (by rfl) (pub_acons (pub_of (pu_fz (puo_comp (own := [("far", 4)]) rfl nd (pui_seq (pu_ix (xd_it (hu65 hr) hM.h) (pub_var (pv 0)) (pub_var (pv 2)))) (blkOk_by (by rfl)) (fun _ _ _ _ _ => (pug_name (pg_name (i := 4) nd rfl (by first | exact .inl rfl | exact .inr rfl)))) (fun _ _ _ _ _ => puts_nil) (fun _ _ _ _ _ => (pu_ix (xd_it (hu65 hr) hM.h) (pub_var (pv 1)) (pub_var (pv 4))))))) pub_anil))) (pub_of (pu_ix (xd_it (hu65 hr) hM.h) (pub_var (pv 0)) (pub_var (pv 3)))))
 (pus_one (pu_ret pu_bl))
 pus_nil)))))
 (pus_one (pu_ret pu_bl)))
/-! ### is_integer -/
abbrev st_is_integer : Stmt := topS 1
def N_is_integer : List Str := ["thing"]
theorem sc_is_integer : FnScope N_is_integer ["thing"] (defScope st_is_integer) := ⟨rfl, rfl, rfl, by decide +kernel, rfl, by decide +kernel, by decide +kernel⟩
theorem W_is_integer {P : Program} {w : World} {K : PySem.W.Frag} {mg : Str → Option Value} {base : Heap} {k : Nat} {f : Addr} {fd : FuncData} (F : Fun K "is_integer" "is_integer" st_is_integer f fd) (gx : mg "is_integer" = some (.ref f)) (b : Binds K fd ["thing"] [])
    (m_isinstance : mg "isinstance" = none) (m_int : mg "int" = none) (m_bool : mg "bool" = none) : Has P w K mg base (k + 2) "is_integer" 1 (spBody 1 (T_is_integer)) :=
  has_of F sc_is_integer gx b fun M hM cdv A outer s H E hr => by
    have nd := sc_is_integer.nd
    have tk : Takes (bodyCx P w K mg base N_is_integer "is_integer" st_is_integer f cdv A outer s H E) (bodyW E) := takes_body
    have pw := passes_body (P := P) (w := w) (K := K) (mg := mg) (base := base) (N := N_is_integer) (qual := "is_integer") (st := st_is_integer) (f := f) (cdv := cdv) (A := A) (outer := outer) (s := s) (H := H) (E := E)
    exact
 (pus_one (pu_ret (pu_and (pu_callB cd_isi (by rfl) m_isinstance (by rfl) (pub_acons (pub_var (pv 0)) (pub_acons (pub_of (pu_ty (T := "int") (by rfl) m_int (by rfl))) pub_anil))) (pu_one (pu_not (pu_callB cd_isi (by rfl) m_isinstance (by rfl) (pub_acons (pub_var (pv 0)) (pub_acons (pub_of (pu_ty (T := "bool") (by rfl) m_bool (by rfl))) pub_anil))))))))
/-! ### is_within -/
abbrev st_is_within : Stmt := topS 2
def N_is_within : List Str := ["thing", "least", "most"]
theorem sc_is_within : FnScope N_is_within ["thing", "least", "most"] (defScope st_is_within) := ⟨rfl, rfl, rfl, by decide +kernel, rfl, by decide +kernel, by decide +kernel⟩
theorem W_is_within {P : Program} {w : World} {K : PySem.W.Frag} {mg : Str → Option Value} {base : Heap} {k : Nat} {sp_is_integer : SpD} {f : Addr} {fd : FuncData} (F : Fun K "is_within" "is_within" st_is_within f fd) (gx : mg "is_within" = some (.ref f)) (b : Binds K fd ["thing", "least", "most"] [])
    (h_is_integer : Has P w K mg base (k + 1) "is_integer" 1 sp_is_integer) : Has P w K mg base (k + 2) "is_within" 3 (spBody 3 (T_is_within sp_is_integer)) :=
  has_of F sc_is_within gx b fun M hM cdv A outer s H E hr => by
    have nd := sc_is_within.nd
    have tk : Takes (bodyCx P w K mg base N_is_within "is_within" st_is_within f cdv A outer s H E) (bodyW E) := takes_body
    have pw := passes_body (P := P) (w := w) (K := K) (mg := mg) (base := base) (N := N_is_within) (qual := "is_within") (st := st_is_within) (f := f) (cdv := cdv) (A := A) (outer := outer) (s := s) (H := H) (E := E)
    exact
 (pus_one (pu_ret (pu_and (pu_fun h_is_integer hM (rm hr) tk (by rfl) (pu_acons (pu_var (pv 0)) pu_anil)) (pu_one (pu_chain od_le od_le (pub_var (pv 1)) (pub_var (pv 0)) (pub_var (pv 2)))))))
/-! ### Group.__init__ -/
abbrev st_Group___init__ : Stmt := clsS 9 0
def N_Group___init__ : List Str := ["self", "table", "many", "number", "row", "one"]
theorem sc_Group___init__ : FnScope N_Group___init__ ["self", "table"] (defScope st_Group___init__) := ⟨rfl, rfl, rfl, by decide +kernel, rfl, by decide +kernel, by decide +kernel⟩
theorem W_Group___init__ {P : Program} {w : World} {K : PySem.W.Frag} {mg : Str → Option Value} {base : Heap} {k : Nat} {sp_is_tuple sp_is_within sp_goes_together : SpD} {C f : Addr} {fd : FuncData} (F : Fun K "__init__" "Group.__init__" st_Group___init__ f fd) (gx : mg "Group" = some (.ref C)) (mk : Mk K C f) (b : Binds K fd ["self", "table"] [])
    (h_is_tuple : Has P w K mg base (k + 1) "is_tuple" 3 sp_is_tuple) (c_MOST_MEMBERS : ∃ t, mg "MOST_MEMBERS" = some (.int 32 t)) (m_len : mg "len" = none) (m_enumerate : mg "enumerate" = none) (m_all : mg "all" = none) (h_is_within : Has P w K mg base (k + 1) "is_within" 3 sp_is_within) (m_list : mg "list" = none) (m_range : mg "range" = none) (h_goes_together : Has P w K mg base (k + 1) "goes_together" 1 sp_goes_together) (cf_Group_table : ClsF K mg "Group" "table") (cf_Group_many : ClsF K mg "Group" "many") (m_tuple : mg "tuple" = none) (cf_Group_backs : ClsF K mg "Group" "backs") : HasC P w K mg base (k + 2) "Group" 1 (spBodyI 6 "Group" (T_Group___init__ sp_is_tuple sp_is_within sp_goes_together)) :=
  hasC_of F sc_Group___init__ rfl gx mk b fun M hM cdv A outer s H E hr => by
    have nd := sc_Group___init__.nd
    have tk : Takes (bodyCx P w K mg base N_Group___init__ "Group.__init__" st_Group___init__ f cdv A outer s H E) (bodyW E) := takes_body
    have pw := passes_body (P := P) (w := w) (K := K) (mg := mg) (base := base) (N := N_Group___init__) (qual := "Group.__init__") (st := st_Group___init__) (f := f) (cdv := cdv) (A := A) (outer := outer) (s := s) (H := H) (E := E)
    exact
 (pus_cons
 (pu_if (put_not (put_val (pu_fun h_is_tuple hM (rm hr) tk (by rfl) (pu_acons (pu_var (pv 1)) (pu_acons pu_int (pu_acons (pu_gint (by rfl) c_MOST_MEMBERS) pu_anil))))))
 (pus_one pu_never)
 pus_nil)
 (pus_cons
 (pu_set (fun _ he => ps_set (i := 2) nd rfl (by first | exact .inl rfl | exact .inr rfl) he) (pu_callB cd_len2 (by rfl) m_len (by rfl) (pub_acons (pub_var (pv 1)) pub_anil)))
 (pus_cons
 (pu_for pw rfl (pui_enum (by rfl) m_enumerate (pu_var (pv 1))) (pug_tup rfl (pug_cons (pug_name (pg_name (i := 3) nd rfl (by first | exact .inl rfl | exact .inr rfl))) (pug_cons (pug_name (pg_name (i := 4) nd rfl (by first | exact .inl rfl | exact .inr rfl))) pug_nil)))
 (pus_one (pu_if (put_w (puw_or (put_not (put_val (pu_fun h_is_tuple hM (rm hr) tk (by rfl) (pu_acons (pu_var (pv 4)) (pu_acons (pu_var (pv 2)) (pu_acons (pu_var (pv 2)) pu_anil)))))) (puw_or1 (put_not (put_val (pu_callB (cd_all rfl) (by rfl) m_all (by rfl) (pub_acons (pub_of (pu_fz (puo_comp (own := [("one", 5)]) rfl nd (pui_seq (pu_var (pv 4))) (blkOk_by (by rfl)) (fun _ _ _ _ _ => (pug_name (pg_name (i := 5) nd rfl (by first | exact .inl rfl | exact .inr rfl)))) (fun _ _ _ _ _ => puts_nil) (fun _ _ _ _ _ => (pu_fun h_is_within hM (rm hr) takes0 (by rfl) (pu_acons (pu_var (pv 5)) (pu_acons pu_int (pu_acons (pu_bin od_sub (pub_var (pv 2)) (pub_of pu_int)) pu_anil)))))))) pub_anil)))))))
 (pus_one pu_never)
 pus_nil)))
 (pus_cons
 (pu_if (put_w (puw_or (put_cmp (od_ne (hu64 hr)) (by rfl) (pub_of (pu_fz (puo_callTy cd_list (by rfl) m_list (by rfl) (pub_acons (pub_of (pu_ix (xd_it (hu65 hr) hM.h) (pub_var (pv 1)) (pub_of pu_int))) pub_anil)))) (pub_of (pu_fz (puo_listRg rfl (by rfl) m_list (pur_1 (by rfl) m_range (pu_var (pv 2))))))) (puw_or1 (put_cmp (od_ne (hu64 hr)) (by rfl) (pub_of (pu_fz (puo_comp (own := [("row", 4)]) rfl nd (pui_seq (pu_var (pv 1))) (blkOk_by (by rfl)) (fun _ _ _ _ _ => (pug_name (pg_name (i := 4) nd rfl (by first | exact .inl rfl | exact .inr rfl)))) (fun _ _ _ _ _ => puts_nil) (fun _ _ _ _ _ => (pu_ix (xd_it (hu65 hr) hM.h) (pub_var (pv 4)) (pub_of pu_int)))))) (pub_of (pu_fz (puo_listRg rfl (by rfl) m_list (pur_1 (by rfl) m_range (pu_var (pv 2))))))))))
 (pus_one pu_never)
 pus_nil)
 (pus_cons
 (pu_if (put_not (put_val (pu_callB (cd_all rfl) (by rfl) m_all (by rfl) (pub_acons (pub_of (pu_fz (puo_comp (own := [("row", 4)]) rfl nd (pui_seq (pu_var (pv 1))) (blkOk_by (by rfl)) (fun _ _ _ _ _ => (pug_name (pg_name (i := 4) nd rfl (by first | exact .inl rfl | exact .inr rfl)))) (fun _ _ _ _ _ => puts_nil) (fun _ _ _ _ _ => (pu_cmp (od_in2 (hu65 hr) hM.h) (by rfl) (pub_of pu_int) (pub_var (pv 4))))))) pub_anil))))
 (pus_one pu_never)
 pus_nil)
 (pus_cons
 (pu_if (put_not (put_val (pu_fun h_goes_together hM (rm hr) tk (by rfl) (pu_acons (pu_var (pv 1)) pu_anil))))
 (pus_one pu_never)
 pus_nil)
 (pus_cons
 (pu_setF (cn := "Group") cf_Group_table (pv 0) (pu_var (pv 1)))
 (pus_cons
 (pu_setF (cn := "Group") cf_Group_many (pv 0) (pu_var (pv 2)))
 (pus_one (pu_setF (cn := "Group") cf_Group_backs (pv 0) (pu_callTy cd_tuple (by rfl) m_tuple (by rfl) (pub_acons (pub_of (pu_fz (puo_comp (own := [("row", 4)]) rfl nd (pui_seq (pu_var (pv 1))) (blkOk_by (by rfl)) (fun _ _ _ _ _ => (pug_name (pg_name (i := 4) nd rfl (by first | exact .inl rfl | exact .inr rfl)))) (fun _ _ _ _ _ => puts_nil) (fun _ _ _ _ _ => (pu_mth (mtd_index (hu65 hr)) (pub_var (pv 4)) (pub_acons (pub_of pu_int) pub_anil)))))) pub_anil))))))))))))
/-! ### _law_row -/
abbrev st__law_row : Stmt := topS 32
def N__law_row : List Str := ["table", "one", "row", "here"]
theorem sc__law_row : FnScope N__law_row ["table", "one"] (defScope st__law_row) := ⟨rfl, rfl, rfl, by decide +kernel, rfl, by decide +kernel, by decide +kernel⟩
theorem W__law_row {P : Program} {w : World} {K : PySem.W.Frag} {mg : Str → Option Value} {base : Heap} {k : Nat} {f : Addr} {fd : FuncData} (F : Fun K "_law_row" "_law_row" st__law_row f fd) (gx : mg "_law_row" = some (.ref f)) (b : Binds K fd ["table", "one"] [])
    (m_tuple : mg "tuple" = none) : Has P w K mg base (k + 2) "_law_row" 2 (spBody 4 (T__law_row)) :=
  has_of F sc__law_row gx b fun M hM cdv A outer s H E hr => by
    have nd := sc__law_row.nd
    have tk : Takes (bodyCx P w K mg base N__law_row "_law_row" st__law_row f cdv A outer s H E) (bodyW E) := takes_body
    have pw := passes_body (P := P) (w := w) (K := K) (mg := mg) (base := base) (N := N__law_row) (qual := "_law_row") (st := st__law_row) (f := f) (cdv := cdv) (A := A) (outer := outer) (s := s) (H := H) (E := E)
    exact
 (pus_cons
 (pu_par (i := 2) (j := 3) (k := .o) (l := .v) rfl nd rfl rfl (by decide) rfl rfl (pu_lst (pu_acons pu_int pu_anil)) (pu_var (pv 1)) (by rfl))
 (pus_cons
 (pu_while pw (put_cmp (od_ne (hu64 hr)) (by rfl) (pub_var (pv 3)) (pub_of pu_int))
 (pus_cons
 (pu_app (fun _ he => ps_expr (pe_bm PySem.F.plainAttrs_list PySem.F.slot_list_append PySem.F.type_list_append mt_append (pv 2) (pa_cons he pa_nil))) (pu_var (pv 3)))
 (pus_one (pu_set (fun _ he => ps_set (i := 3) nd rfl (by first | exact .inl rfl | exact .inr rfl) he) (pu_ix (xd_it (hu65 hr) hM.h) (pub_of (pu_ix (xd_it (hu65 hr) hM.h) (pub_var (pv 0)) (pub_var (pv 3)))) (pub_var (pv 1)))))))
 (pus_one (pu_ret (pu_callTy cd_tuple (by rfl) m_tuple (by rfl) (pub_acons (pub_var (pv 2)) pub_anil))))))
/-! ### order_of -/
abbrev st_order_of : Stmt := topS 11
def N_order_of : List Str := ["group", "one", "here", "many"]
theorem sc_order_of : FnScope N_order_of ["group", "one"] (defScope st_order_of) := ⟨rfl, rfl, rfl, by decide +kernel, rfl, by decide +kernel, by decide +kernel⟩
theorem W_order_of {P : Program} {w : World} {K : PySem.W.Frag} {mg : Str → Option Value} {base : Heap} {k : Nat} {f : Addr} {fd : FuncData} (F : Fun K "order_of" "order_of" st_order_of f fd) (gx : mg "order_of" = some (.ref f)) (b : Binds K fd ["group", "one"] [])
    (fl_table : ∀ c ∈ (["Group"] : List Str), ClsF K mg c "table") : Has P w K mg base (k + 2) "order_of" 2 (spBody 4 (T_order_of)) :=
  has_of F sc_order_of gx b fun M hM cdv A outer s H E hr => by
    have nd := sc_order_of.nd
    have tk : Takes (bodyCx P w K mg base N_order_of "order_of" st_order_of f cdv A outer s H E) (bodyW E) := takes_body
    have pw := passes_body (P := P) (w := w) (K := K) (mg := mg) (base := base) (N := N_order_of) (qual := "order_of") (st := st_order_of) (f := f) (cdv := cdv) (A := A) (outer := outer) (s := s) (H := H) (E := E)
    exact
 (pus_cons
 (pu_par (i := 2) (j := 3) (k := .v) (l := .v) rfl nd rfl rfl (by decide) rfl rfl (pu_var (pv 1)) pu_int (by rfl))
 (pus_cons
 (pu_while pw (put_cmp (od_ne (hu64 hr)) (by rfl) (pub_var (pv 2)) (pub_of pu_int))
 (pus_one (pu_par (i := 2) (j := 3) (k := .v) (l := .v) rfl nd rfl rfl (by decide) rfl rfl (pu_ix (xd_it (hu65 hr) hM.h) (pub_of (pu_ix (xd_it (hu65 hr) hM.h) (pub_of (pu_fld (cs := (["Group"] : List Str)) fl_table (pub_var (pv 0)))) (pub_var (pv 2)))) (pub_var (pv 1))) (pu_bin od_add (pub_var (pv 3)) (pub_of pu_int)) (by rfl))))
 (pus_one (pu_ret (pu_var (pv 3))))))
/-! ### orders_of -/
abbrev st_orders_of : Stmt := topS 12
def N_orders_of : List Str := ["group", "one"]
theorem sc_orders_of : FnScope N_orders_of ["group"] (defScope st_orders_of) := ⟨rfl, rfl, rfl, by decide +kernel, rfl, by decide +kernel, by decide +kernel⟩
theorem W_orders_of {P : Program} {w : World} {K : PySem.W.Frag} {mg : Str → Option Value} {base : Heap} {k : Nat} {sp_order_of : SpD} {f : Addr} {fd : FuncData} (F : Fun K "orders_of" "orders_of" st_orders_of f fd) (gx : mg "orders_of" = some (.ref f)) (b : Binds K fd ["group"] [])
    (m_range : mg "range" = none) (fl_many : ∀ c ∈ (["Group"] : List Str), ClsF K mg c "many") (h_order_of : Has P w K mg base (k + 1) "order_of" 2 sp_order_of) : Has P w K mg base (k + 2) "orders_of" 1 (spBody 2 (T_orders_of sp_order_of)) :=
  has_of F sc_orders_of gx b fun M hM cdv A outer s H E hr => by
    have nd := sc_orders_of.nd
    have tk : Takes (bodyCx P w K mg base N_orders_of "orders_of" st_orders_of f cdv A outer s H E) (bodyW E) := takes_body
    have pw := passes_body (P := P) (w := w) (K := K) (mg := mg) (base := base) (N := N_orders_of) (qual := "orders_of") (st := st_orders_of) (f := f) (cdv := cdv) (A := A) (outer := outer) (s := s) (H := H) (E := E)
    exact
 (pus_one (pu_ret (pu_fz (puo_comp (own := [("one", 1)]) rfl nd (pui_range1 (by rfl) m_range (pu_acons (pu_fld (cs := (["Group"] : List Str)) fl_many (pub_var (pv 0))) pu_anil)) (blkOk_by (by rfl)) (fun _ _ _ _ _ => (pug_name (pg_name (i := 1) nd rfl (by first | exact .inl rfl | exact .inr rfl)))) (fun _ _ _ _ _ => puts_nil) (fun _ _ _ _ _ => (pu_fun h_order_of hM (rm hr) takes0 (by rfl) (pu_acons (pu_var (pv 0)) (pu_acons (pu_var (pv 1)) pu_anil))))))))
/-! ### order_counts -/
abbrev st_order_counts : Stmt := topS 13
def N_order_counts : List Str := ["group", "found", "many"]
theorem sc_order_counts : FnScope N_order_counts ["group"] (defScope st_order_counts) := ⟨rfl, rfl, rfl, by decide +kernel, rfl, by decide +kernel, by decide +kernel⟩
theorem W_order_counts {P : Program} {w : World} {K : PySem.W.Frag} {mg : Str → Option Value} {base : Heap} {k : Nat} {sp_orders_of : SpD} {f : Addr} {fd : FuncData} (F : Fun K "order_counts" "order_counts" st_order_counts f fd) (gx : mg "order_counts" = some (.ref f)) (b : Binds K fd ["group"] [])
    (h_orders_of : Has P w K mg base (k + 1) "orders_of" 1 sp_orders_of) (m_sorted : mg "sorted" = none) : Has P w K mg base (k + 2) "order_counts" 1 (spBody 3 (T_order_counts sp_orders_of)) :=
  has_of F sc_order_counts gx b fun M hM cdv A outer s H E hr => by
    have nd := sc_order_counts.nd
    have tk : Takes (bodyCx P w K mg base N_order_counts "order_counts" st_order_counts f cdv A outer s H E) (bodyW E) := takes_body
    have pw := passes_body (P := P) (w := w) (K := K) (mg := mg) (base := base) (N := N_order_counts) (qual := "order_counts") (st := st_order_counts) (f := f) (cdv := cdv) (A := A) (outer := outer) (s := s) (H := H) (E := E)
    exact
 (pus_cons
 (pu_own (fun _ he => ps_set (i := 1) nd rfl (by first | exact .inl rfl | exact .inr rfl) he) puo_dnew)
 (pus_cons
 (pu_for pw rfl (pui_seq (pu_fun h_orders_of hM (rm hr) tk (by rfl) (pu_acons (pu_var (pv 0)) pu_anil))) (pug_name (pg_name (i := 2) nd rfl (by first | exact .inl rfl | exact .inr rfl)))
 (pus_one (pu_put (hu65 hr) (pv 1) (pu_var (pv 2)) (pu_bin od_add (pub_of (pu_get2 (hu65 hr) (pub_var (pv 1)) (pu_var (pv 2)) pu_int ⟨rfl, rfl, rfl, rfl⟩)) (pub_of pu_int)))))
 (pus_one (pu_ret (pu_fz (puo_sortItems rfl (hu65 hr) (by rfl) m_sorted (pub_var (pv 1))))))))
/-! ### _law_is_plain -/
abbrev st__law_is_plain : Stmt := topS 33
def N__law_is_plain : List Str := ["rule", "at", "one", "other", "low", "high"]
theorem sc__law_is_plain : FnScope N__law_is_plain ["rule"] (defScope st__law_is_plain) := ⟨rfl, rfl, rfl, by decide +kernel, rfl, by decide +kernel, by decide +kernel⟩
theorem W__law_is_plain {P : Program} {w : World} {K : PySem.W.Frag} {mg : Str → Option Value} {base : Heap} {k : Nat} {f : Addr} {fd : FuncData} (F : Fun K "_law_is_plain" "_law_is_plain" st__law_is_plain f fd) (gx : mg "_law_is_plain" = some (.ref f)) (b : Binds K fd ["rule"] [])
    (m_enumerate : mg "enumerate" = none) (m_int : mg "int" = none) : Has P w K mg base (k + 2) "_law_is_plain" 1 (spBody 6 (T__law_is_plain)) :=
  has_of F sc__law_is_plain gx b fun M hM cdv A outer s H E hr => by
    have nd := sc__law_is_plain.nd
    have tk : Takes (bodyCx P w K mg base N__law_is_plain "_law_is_plain" st__law_is_plain f cdv A outer s H E) (bodyW E) := takes_body
    have pw := passes_body (P := P) (w := w) (K := K) (mg := mg) (base := base) (N := N__law_is_plain) (qual := "_law_is_plain") (st := st__law_is_plain) (f := f) (cdv := cdv) (A := A) (outer := outer) (s := s) (H := H) (E := E)
    exact
 (pus_cons
 (pu_if (put_cmp (od_eq (hu64 hr)) (by rfl) (pub_of (pu_ix (xd_it (hu65 hr) hM.h) (pub_var (pv 0)) (pub_of pu_int))) (pub_of pu_str))
 (pus_one (pu_ret (pu_tup (pu_acons (pu_cmp od_lt (by rfl) (pub_of (pu_ix (xd_it (hu65 hr) hM.h) (pub_var (pv 0)) (pub_of pu_int))) (pub_of pu_int)) (pu_acons (pu_cmp (od_eq (hu64 hr)) (by rfl) (pub_of (pu_ix (xd_it (hu65 hr) hM.h) (pub_var (pv 0)) (pub_of pu_int))) (pub_of pu_int)) pu_anil)))))
 pus_nil)
 (pus_cons
 (pu_if (put_cmp (od_ne (hu64 hr)) (by rfl) (pub_of (pu_ix (xd_it (hu65 hr) hM.h) (pub_var (pv 0)) (pub_of pu_int))) (pub_of pu_str))
 (pus_one (pu_ret (pu_tup (pu_acons pu_bl (pu_acons pu_bl pu_anil)))))
 pus_nil)
 (pus_cons
 (pu_for pw rfl (pui_enum (by rfl) m_enumerate (pu_ix (xd_it (hu65 hr) hM.h) (pub_var (pv 0)) (pub_of pu_int))) (pug_tup rfl (pug_cons (pug_name (pg_name (i := 1) nd rfl (by first | exact .inl rfl | exact .inr rfl))) (pug_cons (pug_name (pg_name (i := 2) nd rfl (by first | exact .inl rfl | exact .inr rfl))) pug_nil)))
 (pus_one (pu_for pw rfl (pui_seq (pu_slice (tl := (some (dBin addD (dVarB 1) (dC (.int 1))))) (th := none) (pub_of (pu_ix (xd_it (hu65 hr) hM.h) (pub_var (pv 0)) (pub_of pu_int))) (pu_bin od_add (pub_var (pv 1)) (pub_of pu_int)) trivial)) (pug_name (pg_name (i := 3) nd rfl (by first | exact .inl rfl | exact .inr rfl)))
 (pus_cons
 (pu_par (i := 4) (j := 5) (k := .v) (l := .v) rfl nd rfl rfl (by decide) rfl rfl (pu_var (pv 2)) (pu_var (pv 3)) (by rfl))
 (pus_cons
 (pu_while pw (put_cmp od_gt (by rfl) (pub_var (pv 5)) (pub_of pu_int))
 (pus_one (pu_par (i := 4) (j := 5) (k := .v) (l := .v) rfl nd rfl rfl (by decide) rfl rfl (pu_var (pv 5)) (pu_bin od_mod (pub_of (pu_callTy cd_int (by rfl) m_int (by rfl) (pub_acons (pub_var (pv 4)) pub_anil))) (pub_var (pv 5))) (by rfl))))
 (pus_one (pu_if (put_cmp od_gt (by rfl) (pub_var (pv 4)) (pub_of pu_int))
 (pus_one (pu_ret (pu_tup (pu_acons pu_bl (pu_acons pu_bl pu_anil)))))
 pus_nil)))))))
 (pus_one (pu_ret (pu_tup (pu_acons pu_bl (pu_acons pu_bl pu_anil))))))))
/-! ### _law_is -/
abbrev st__law_is : Stmt := topS 23
def N__law_is : List Str := ["got", "due"]
theorem sc__law_is : FnScope N__law_is ["got", "due"] (defScope st__law_is) := ⟨rfl, rfl, rfl, by decide +kernel, rfl, by decide +kernel, by decide +kernel⟩
theorem W__law_is {P : Program} {w : World} {K : PySem.W.Frag} {mg : Str → Option Value} {base : Heap} {k : Nat} {f : Addr} {fd : FuncData} (F : Fun K "_law_is" "_law_is" st__law_is f fd) (gx : mg "_law_is" = some (.ref f)) (b : Binds K fd ["got", "due"] [])
    (m_repr : mg "repr" = none) : Has P w K mg base (k + 2) "_law_is" 2 (spBody 2 (T__law_is)) :=
  has_of F sc__law_is gx b fun M hM cdv A outer s H E hr => by
    have nd := sc__law_is.nd
    have tk : Takes (bodyCx P w K mg base N__law_is "_law_is" st__law_is f cdv A outer s H E) (bodyW E) := takes_body
    have pw := passes_body (P := P) (w := w) (K := K) (mg := mg) (base := base) (N := N__law_is) (qual := "_law_is") (st := st__law_is) (f := f) (cdv := cdv) (A := A) (outer := outer) (s := s) (H := H) (E := E)
    exact
 (pus_one (pu_ret (pu_cmp (od_eq (hu64 hr)) (by rfl) (pub_of (pu_callB (cd_repr (hu65 hr) hr.g) (by rfl) m_repr (by rfl) (pub_acons (pub_var (pv 0)) pub_anil))) (pub_of (pu_callB (cd_repr (hu65 hr) hr.g) (by rfl) m_repr (by rfl) (pub_acons (pub_var (pv 1)) pub_anil))))))
/-! ### shared -/
abbrev st_shared : Stmt := topS 14
def N_shared : List Str := ["one", "other"]
theorem sc_shared : FnScope N_shared ["one", "other"] (defScope st_shared) := ⟨rfl, rfl, rfl, by decide +kernel, rfl, by decide +kernel, by decide +kernel⟩
theorem W_shared {P : Program} {w : World} {K : PySem.W.Frag} {mg : Str → Option Value} {base : Heap} {k : Nat} {f : Addr} {fd : FuncData} (F : Fun K "shared" "shared" st_shared f fd) (gx : mg "shared" = some (.ref f)) (b : Binds K fd ["one", "other"] [])
     : Has P w K mg base (k + 2) "shared" 2 (spBody 2 (T_shared)) :=
  has_of F sc_shared gx b fun M hM cdv A outer s H E hr => by
    have nd := sc_shared.nd
    have tk : Takes (bodyCx P w K mg base N_shared "shared" st_shared f cdv A outer s H E) (bodyW E) := takes_body
    have pw := passes_body (P := P) (w := w) (K := K) (mg := mg) (base := base) (N := N_shared) (qual := "shared") (st := st_shared) (f := f) (cdv := cdv) (A := A) (outer := outer) (s := s) (H := H) (E := E)
    exact
 (pus_cons
 (pu_while pw (put_cmp od_gt (by rfl) (pub_var (pv 1)) (pub_of pu_int))
 (pus_one (pu_par (i := 0) (j := 1) (k := .v) (l := .v) rfl nd rfl rfl (by decide) rfl rfl (pu_var (pv 1)) (pu_bin od_mod (pub_var (pv 0)) (pub_var (pv 1))) (by rfl))))
 (pus_one (pu_ret (pu_var (pv 0)))))
/-! ### exponent -/
abbrev st_exponent : Stmt := topS 15
def N_exponent : List Str := ["group", "found", "many"]
theorem sc_exponent : FnScope N_exponent ["group"] (defScope st_exponent) := ⟨rfl, rfl, rfl, by decide +kernel, rfl, by decide +kernel, by decide +kernel⟩
theorem W_exponent {P : Program} {w : World} {K : PySem.W.Frag} {mg : Str → Option Value} {base : Heap} {k : Nat} {sp_orders_of sp_shared : SpD} {f : Addr} {fd : FuncData} (F : Fun K "exponent" "exponent" st_exponent f fd) (gx : mg "exponent" = some (.ref f)) (b : Binds K fd ["group"] [])
    (h_orders_of : Has P w K mg base (k + 1) "orders_of" 1 sp_orders_of) (h_shared : Has P w K mg base (k + 1) "shared" 2 sp_shared) : Has P w K mg base (k + 2) "exponent" 1 (spBody 3 (T_exponent sp_orders_of sp_shared)) :=
  has_of F sc_exponent gx b fun M hM cdv A outer s H E hr => by
    have nd := sc_exponent.nd
    have tk : Takes (bodyCx P w K mg base N_exponent "exponent" st_exponent f cdv A outer s H E) (bodyW E) := takes_body
    have pw := passes_body (P := P) (w := w) (K := K) (mg := mg) (base := base) (N := N_exponent) (qual := "exponent") (st := st_exponent) (f := f) (cdv := cdv) (A := A) (outer := outer) (s := s) (H := H) (E := E)
    exact
 (pus_cons
 (pu_set (fun _ he => ps_set (i := 1) nd rfl (by first | exact .inl rfl | exact .inr rfl) he) pu_int)
 (pus_cons
 (pu_for pw rfl (pui_seq (pu_fun h_orders_of hM (rm hr) tk (by rfl) (pu_acons (pu_var (pv 0)) pu_anil))) (pug_name (pg_name (i := 2) nd rfl (by first | exact .inl rfl | exact .inr rfl)))
 (pus_one (pu_set (fun _ he => ps_set (i := 1) nd rfl (by first | exact .inl rfl | exact .inr rfl) he) (pu_bin od_fdiv (pub_of (pu_bin od_mul (pub_var (pv 1)) (pub_var (pv 2)))) (pub_of (pu_fun h_shared hM (rm hr) tk (by rfl) (pu_acons (pu_var (pv 1)) (pu_acons (pu_var (pv 2)) pu_anil))))))))
 (pus_one (pu_ret (pu_var (pv 1))))))
/-! ### lines -/
abbrev st_lines : Stmt := topS 18
def N_lines : List Str := ["group", "found", "one", "row", "here"]
theorem sc_lines : FnScope N_lines ["group"] (defScope st_lines) := ⟨rfl, rfl, rfl, by decide +kernel, rfl, by decide +kernel, by decide +kernel⟩
theorem W_lines {P : Program} {w : World} {K : PySem.W.Frag} {mg : Str → Option Value} {base : Heap} {k : Nat} {f : Addr} {fd : FuncData} (F : Fun K "lines" "lines" st_lines f fd) (gx : mg "lines" = some (.ref f)) (b : Binds K fd ["group"] [])
    (m_range : mg "range" = none) (fl_many : ∀ c ∈ (["Group"] : List Str), ClsF K mg c "many") (fl_table : ∀ c ∈ (["Group"] : List Str), ClsF K mg c "table") (m_tuple : mg "tuple" = none) : Has P w K mg base (k + 2) "lines" 1 (spBody 5 (T_lines)) :=
  has_of F sc_lines gx b fun M hM cdv A outer s H E hr => by
    have nd := sc_lines.nd
    have tk : Takes (bodyCx P w K mg base N_lines "lines" st_lines f cdv A outer s H E) (bodyW E) := takes_body
    have pw := passes_body (P := P) (w := w) (K := K) (mg := mg) (base := base) (N := N_lines) (qual := "lines") (st := st_lines) (f := f) (cdv := cdv) (A := A) (outer := outer) (s := s) (H := H) (E := E)
    exact
 (pus_cons
 (pu_own (fun _ he => ps_set (i := 1) nd rfl (by first | exact .inl rfl | exact .inr rfl) he) (pu_lst pu_anil))
 (pus_cons
 (pu_for pw rfl (pui_range1 (by rfl) m_range (pu_acons (pu_fld (cs := (["Group"] : List Str)) fl_many (pub_var (pv 0))) pu_anil)) (pug_name (pg_name (i := 2) nd rfl (by first | exact .inl rfl | exact .inr rfl)))
 (pus_cons
 (pu_par (i := 3) (j := 4) (k := .o) (l := .v) rfl nd rfl rfl (by decide) rfl rfl (pu_lst (pu_acons pu_int pu_anil)) (pu_var (pv 2)) (by rfl))
 (pus_cons
 (pu_while pw (put_cmp (od_ne (hu64 hr)) (by rfl) (pub_var (pv 4)) (pub_of pu_int))
 (pus_cons
 (pu_app (fun _ he => ps_expr (pe_bm PySem.F.plainAttrs_list PySem.F.slot_list_append PySem.F.type_list_append mt_append (pv 3) (pa_cons he pa_nil))) (pu_var (pv 4)))
 (pus_one (pu_set (fun _ he => ps_set (i := 4) nd rfl (by first | exact .inl rfl | exact .inr rfl) he) (pu_ix (xd_it (hu65 hr) hM.h) (pub_of (pu_ix (xd_it (hu65 hr) hM.h) (pub_of (pu_fld (cs := (["Group"] : List Str)) fl_table (pub_var (pv 0)))) (pub_var (pv 4)))) (pub_var (pv 2)))))))
 (pus_one (pu_app (fun _ he => ps_expr (pe_bm PySem.F.plainAttrs_list PySem.F.slot_list_append PySem.F.type_list_append mt_append (pv 1) (pa_cons he pa_nil))) (pu_callTy cd_tuple (by rfl) m_tuple (by rfl) (pub_acons (pub_var (pv 3)) pub_anil)))))))
 (pus_one (pu_frS (i := 1) (pu_ret (pu_var (pv 1)))))))
/-! ### is_even -/
abbrev st_is_even : Stmt := topS 16
def N_is_even : List Str := ["group", "row"]
theorem sc_is_even : FnScope N_is_even ["group"] (defScope st_is_even) := ⟨rfl, rfl, rfl, by decide +kernel, rfl, by decide +kernel, by decide +kernel⟩
theorem W_is_even {P : Program} {w : World} {K : PySem.W.Frag} {mg : Str → Option Value} {base : Heap} {k : Nat} {f : Addr} {fd : FuncData} (F : Fun K "is_even" "is_even" st_is_even f fd) (gx : mg "is_even" = some (.ref f)) (b : Binds K fd ["group"] [])
    (fl_table : ∀ c ∈ (["Group"] : List Str), ClsF K mg c "table") (m_tuple : mg "tuple" = none) (m_list : mg "list" = none) (m_zip : mg "zip" = none) : Has P w K mg base (k + 2) "is_even" 1 (spBody 2 (T_is_even)) :=
  has_of F sc_is_even gx b fun M hM cdv A outer s H E hr => by
    have nd := sc_is_even.nd
    have tk : Takes (bodyCx P w K mg base N_is_even "is_even" st_is_even f cdv A outer s H E) (bodyW E) := takes_body
    have pw := passes_body (P := P) (w := w) (K := K) (mg := mg) (base := base) (N := N_is_even) (qual := "is_even") (st := st_is_even) (f := f) (cdv := cdv) (A := A) (outer := outer) (s := s) (H := H) (E := E)
    exact
 (pus_one (pu_ret (pu_cmp (od_eq (hu64 hr)) (by rfl) (pub_of (pu_fld (cs := (["Group"] : List Str)) fl_table (pub_var (pv 0)))) (pub_of (pu_callTy cd_tuple (by rfl) m_tuple (by rfl) (pub_acons (pub_of (pu_fz (puo_comp (own := [("row", 1)]) rfl nd (pui_seq (pu_fz (puo_zipStar rfl (by rfl) m_list (by rfl) m_zip (pu_fld (cs := (["Group"] : List Str)) fl_table (pub_var (pv 0)))))) (blkOk_by (by rfl)) (fun _ _ _ _ _ => (pug_name (pg_name (i := 1) nd rfl (by first | exact .inl rfl | exact .inr rfl)))) (fun _ _ _ _ _ => puts_nil) (fun _ _ _ _ _ => (pu_callTy cd_tuple (by rfl) m_tuple (by rfl) (pub_acons (pub_var (pv 1)) pub_anil)))))) pub_anil))))))
/-! ### is_round -/
abbrev st_is_round : Stmt := topS 17
def N_is_round : List Str := ["group"]
theorem sc_is_round : FnScope N_is_round ["group"] (defScope st_is_round) := ⟨rfl, rfl, rfl, by decide +kernel, rfl, by decide +kernel, by decide +kernel⟩
theorem W_is_round {P : Program} {w : World} {K : PySem.W.Frag} {mg : Str → Option Value} {base : Heap} {k : Nat} {sp_orders_of : SpD} {f : Addr} {fd : FuncData} (F : Fun K "is_round" "is_round" st_is_round f fd) (gx : mg "is_round" = some (.ref f)) (b : Binds K fd ["group"] [])
    (fl_many : ∀ c ∈ (["Group"] : List Str), ClsF K mg c "many") (h_orders_of : Has P w K mg base (k + 1) "orders_of" 1 sp_orders_of) : Has P w K mg base (k + 2) "is_round" 1 (spBody 1 (T_is_round sp_orders_of)) :=
  has_of F sc_is_round gx b fun M hM cdv A outer s H E hr => by
    have nd := sc_is_round.nd
    have tk : Takes (bodyCx P w K mg base N_is_round "is_round" st_is_round f cdv A outer s H E) (bodyW E) := takes_body
    have pw := passes_body (P := P) (w := w) (K := K) (mg := mg) (base := base) (N := N_is_round) (qual := "is_round") (st := st_is_round) (f := f) (cdv := cdv) (A := A) (outer := outer) (s := s) (H := H) (E := E)
    exact
 (pus_one (pu_ret (pu_cmp (od_in2 (hu65 hr) hM.h) (by rfl) (pub_of (pu_fld (cs := (["Group"] : List Str)) fl_many (pub_var (pv 0)))) (pub_of (pu_fun h_orders_of hM (rm hr) tk (by rfl) (pu_acons (pu_var (pv 0)) pu_anil))))))
/-! ### law -/
abbrev st_law : Stmt := topS 34
def N_law : List Str := ["script", "hand", "turn", "rule", "plain", "table", "group", "rows", "one", "sizes", "row", "size", "even", "other", "at", "flags"]
theorem sc_law : FnScope N_law ["script"] (defScope st_law) := ⟨rfl, rfl, rfl, by decide +kernel, rfl, by decide +kernel, by decide +kernel⟩
theorem W_law {P : Program} {w : World} {K : PySem.W.Frag} {mg : Str → Option Value} {base : Heap} {k : Nat} {sp__law_rule sp__law_table sp__law_called sp__law_names sp_Group sp__law_row sp_lines sp_order_counts sp__law_is_plain sp__law_is sp_is_even sp_is_round sp_exponent : SpD} {f : Addr}
    (m_range : mg "range" = none) (h__law_rule : Has P w K mg base (k + 1) "_law_rule" 1 sp__law_rule) (h__law_table : Has P w K mg base (k + 1) "_law_table" 1 sp__law_table) (h__law_called : Has P w K mg base (k + 1) "_law_called" 2 sp__law_called) (h__law_names : Has P w K mg base (k + 1) "_law_names" 2 sp__law_names) (m_len : mg "len" = none) (h_Group : HasC P w K mg base k "Group" 1 sp_Group) (h__law_row : Has P w K mg base (k + 1) "_law_row" 2 sp__law_row) (m_list : mg "list" = none) (h_lines : Has P w K mg base (k + 1) "lines" 1 sp_lines) (m_isinstance : mg "isinstance" = none) (h_order_counts : Has P w K mg base (k + 1) "order_counts" 1 sp_order_counts) (m_sorted : mg "sorted" = none) (m_set : mg "set" = none) (m_all : mg "all" = none) (m_enumerate : mg "enumerate" = none) (m_max : mg "max" = none) (h__law_is_plain : Has P w K mg base (k + 1) "_law_is_plain" 1 sp__law_is_plain) (h__law_is : Has P w K mg base (k + 1) "_law_is" 2 sp__law_is) (h_is_even : Has P w K mg base (k + 1) "is_even" 1 sp_is_even) (h_is_round : Has P w K mg base (k + 1) "is_round" 1 sp_is_round) (h_exponent : Has P w K mg base (k + 1) "exponent" 1 sp_exponent) (M : Am) (hM : AmOk w M) (cdv : Value) (A : Around) (outer : List PySem.Env) (s : Shared) (H : Hp) (E : XK) (hr : RoomG (k + 1) (A.deeper (envOfC "law" (defScope st_law) s.heap.objs.size f cdv))) : PuSs M (bodyW E) (bodyCx P w K mg base N_law "law" st_law f cdv A outer s H E) ((defBody st_law).drop 1) (T_law sp__law_rule sp__law_table sp__law_called sp__law_names sp_Group sp__law_row sp_lines sp_order_counts sp__law_is_plain sp__law_is sp_is_even sp_is_round sp_exponent) := by
    have nd := sc_law.nd
    have tk : Takes (bodyCx P w K mg base N_law "law" st_law f cdv A outer s H E) (bodyW E) := takes_body
    have pw := passes_body (P := P) (w := w) (K := K) (mg := mg) (base := base) (N := N_law) (qual := "law") (st := st_law) (f := f) (cdv := cdv) (A := A) (outer := outer) (s := s) (H := H) (E := E)
    exact
 (pus_cons
 (pu_for pw rfl (pui_range1 (by rfl) m_range (pu_acons pu_int pu_anil)) (pug_name (pg_name (i := 2) nd rfl (by first | exact .inl rfl | exact .inr rfl)))
 (pus_cons
 (pu_set (fun _ he => ps_set (i := 3) nd rfl (by first | exact .inl rfl | exact .inr rfl) he) (pu_fun h__law_rule hM (rm hr) tk (by rfl) (pu_acons (pu_var (pv 1)) pu_anil)))
 (pus_cons
 (pu_set (fun _ he => ps_set (i := 4) nd rfl (by first | exact .inl rfl | exact .inr rfl) he) (pu_fun h__law_table hM (rm hr) tk (by rfl) (pu_acons (pu_var (pv 3)) pu_anil)))
 (pus_cons
 (pu_set (fun _ he => ps_set (i := 5) nd rfl (by first | exact .inl rfl | exact .inr rfl) he) (pu_fun h__law_called hM (rm hr) tk (by rfl) (pu_acons (pu_var (pv 4)) (pu_acons (pu_fun h__law_names hM (rm hr) tk (by rfl) (pu_acons (pu_var (pv 1)) (pu_acons (pu_callB cd_len2 (by rfl) m_len (by rfl) (pub_acons (pub_var (pv 4)) pub_anil)) pu_anil))) pu_anil))))
 (pus_cons
 (pu_par (i := 6) (j := 7) (k := .v) (l := .v) rfl nd rfl rfl (by decide) rfl rfl (pu_make (E0 := E) h_Group hM (rm hr) tk (fun _ => rfl) (by rfl) (pu_acons (pu_var (pv 5)) pu_anil)) (pu_fz (puo_comp (own := [("one", 8)]) rfl nd (pui_range1 (by rfl) m_range (pu_acons (pu_callB cd_len2 (by rfl) m_len (by rfl) (pub_acons (pub_var (pv 5)) pub_anil)) pu_anil)) (blkOk_by (by rfl)) (fun _ _ _ _ _ => (pug_name (pg_name (i := 8) nd rfl (by first | exact .inl rfl | exact .inr rfl)))) (fun _ _ _ _ _ => puts_nil) (fun _ _ _ _ _ => (pu_fun h__law_row hM (rm hr) takes0 (by rfl) (pu_acons (pu_var (pv 5)) (pu_acons (pu_var (pv 8)) pu_anil)))))) (by rfl))
 (pus_cons
 (pu_if (put_w (puw_or (put_cmp (od_ne (hu64 hr)) (by rfl) (pub_of (pu_fz (puo_callTy cd_list (by rfl) m_list (by rfl) (pub_acons (pub_of (pu_fun h_lines hM (rm hr) tk (by rfl) (pu_acons (pu_var (pv 6)) pu_anil))) pub_anil)))) (pub_var (pv 7))) (puw_or1 (put_not (put_val (pu_callB cd_isi (by rfl) m_isinstance (by rfl) (pub_acons (pub_of (pu_fun h_lines hM (rm hr) tk (by rfl) (pu_acons (pu_var (pv 6)) pu_anil))) (pub_acons (pub_of (pu_ty (T := "list") (by rfl) m_list (by rfl))) pub_anil))))))))
 (pus_one (pu_ret pu_bl))
 pus_nil)
 (pus_cons
 (pu_set (fun _ he => ps_set (i := 9) nd rfl (by first | exact .inl rfl | exact .inr rfl) he) (pu_fz (puo_comp (own := [("row", 10)]) rfl nd (pui_seq (pu_var (pv 7))) (blkOk_by (by rfl)) (fun _ _ _ _ _ => (pug_name (pg_name (i := 10) nd rfl (by first | exact .inl rfl | exact .inr rfl)))) (fun _ _ _ _ _ => puts_nil) (fun _ _ _ _ _ => (pu_callB cd_len2 (by rfl) m_len (by rfl) (pub_acons (pub_var (pv 10)) pub_anil))))))
 (pus_cons
 (pu_if (put_cmp (od_ne (hu64 hr)) (by rfl) (pub_of (pu_fz (puo_callTy cd_list (by rfl) m_list (by rfl) (pub_acons (pub_of (pu_fun h_order_counts hM (rm hr) tk (by rfl) (pu_acons (pu_var (pv 6)) pu_anil))) pub_anil)))) (pub_of (pu_fz (puo_comp (own := [("size", 11)]) rfl nd (pui_seq (pu_fz (puo_sortSet rfl (by rfl) m_sorted (by rfl) m_set (pub_var (pv 9))))) (blkOk_by (by rfl)) (fun _ _ _ _ _ => (pug_name (pg_name (i := 11) nd rfl (by first | exact .inl rfl | exact .inr rfl)))) (fun _ _ _ _ _ => puts_nil) (fun _ _ _ _ _ => (pu_tup (pu_acons (pu_var (pv 11)) (pu_acons (pu_mth (mtd_count (hu65 hr)) (pub_var (pv 9)) (pub_acons (pub_var (pv 11)) pub_anil)) pu_anil))))))))
 (pus_one (pu_ret pu_bl))
 pus_nil)
 (pus_cons
 (pu_set (fun _ he => ps_set (i := 12) nd rfl (by first | exact .inl rfl | exact .inr rfl) he) (pu_callB (cd_all rfl) (by rfl) m_all (by rfl) (pub_acons (pub_of (pu_fz (puo_comp (own := [("at", 14), ("row", 10)]) rfl nd (pui_enum (by rfl) m_enumerate (pu_var (pv 5))) (blkOk_by (by rfl)) (fun _ _ _ _ _ => (pug_tup rfl (pug_cons (pug_name (pg_name (i := 14) nd rfl (by first | exact .inl rfl | exact .inr rfl))) (pug_cons (pug_name (pg_name (i := 10) nd rfl (by first | exact .inl rfl | exact .inr rfl))) pug_nil)))) (fun _ _ _ _ _ => puts_nil) (fun _ _ _ _ _ => (pu_cmp (od_eq (hu64 hr)) (by rfl) (pub_of (pu_fz (puo_callTy cd_list (by rfl) m_list (by rfl) (pub_acons (pub_var (pv 10)) pub_anil)))) (pub_of (pu_fz (puo_comp (own := [("other", 13)]) rfl nd (pui_seq (pu_var (pv 5))) (blkOk_by (by rfl)) (fun _ _ _ _ _ => (pug_name (pg_name (i := 13) nd rfl (by first | exact .inl rfl | exact .inr rfl)))) (fun _ _ _ _ _ => puts_nil) (fun _ _ _ _ _ => (pu_ix (xd_it (hu65 hr) hM.h) (pub_var (pv 13)) (pub_var (pv 14)))))))))))) pub_anil)))
 (pus_cons
 (pu_set (fun _ he => ps_set (i := 15) nd rfl (by first | exact .inl rfl | exact .inr rfl) he) (pu_tup (pu_acons (pu_var (pv 12)) (pu_acons (pu_cmp (od_eq (hu64 hr)) (by rfl) (pub_of (pu_callB (cd_max rfl) (by rfl) m_max (by rfl) (pub_acons (pub_var (pv 9)) pub_anil))) (pub_of (pu_callB cd_len2 (by rfl) m_len (by rfl) (pub_acons (pub_var (pv 5)) pub_anil)))) pu_anil))))
 (pus_cons
 (pu_if (put_w (puw_or (put_cmp (od_ne (hu64 hr)) (by rfl) (pub_var (pv 15)) (pub_of (pu_fun h__law_is_plain hM (rm hr) tk (by rfl) (pu_acons (pu_var (pv 3)) pu_anil)))) (puw_or1 (put_not (put_val (pu_fun h__law_is hM (rm hr) tk (by rfl) (pu_acons (pu_fz (pu_lst (pu_acons (pu_fun h_is_even hM (rm hr) tk (by rfl) (pu_acons (pu_var (pv 6)) pu_anil)) (pu_acons (pu_fun h_is_round hM (rm hr) tk (by rfl) (pu_acons (pu_var (pv 6)) pu_anil)) pu_anil)))) (pu_acons (pu_fz (puo_callTy cd_list (by rfl) m_list (by rfl) (pub_acons (pub_var (pv 15)) pub_anil))) pu_anil))))))))
 (pus_one (pu_ret pu_bl))
 pus_nil)
 (pus_one (pu_if (put_w (puw_and (put_val (pu_var (pv 12))) (puw_and1 (put_cmp (od_ne (hu64 hr)) (by rfl) (pub_of (pu_fun h_exponent hM (rm hr) tk (by rfl) (pu_acons (pu_var (pv 6)) pu_anil))) (pub_of (pu_callB (cd_max rfl) (by rfl) m_max (by rfl) (pub_acons (pub_var (pv 9)) pub_anil)))))))
 (pus_one (pu_ret pu_bl))
 pus_nil)))))))))))))
 (pus_one (pu_ret pu_bl)))
end KK
set_option Elab.async false
set_option linter.all false
set_option maxRecDepth 100000
set_option maxHeartbeats 0
namespace KK
open PySem PySem.Spec PyProof.Rows L2 PL
abbrev st__law_draw : Stmt := topS 21
def N__law_draw : List Str := ["hand", "many", "cell", "digit", "number"]
theorem sc__law_draw : FnScope N__law_draw ["hand", "many"] (defScope st__law_draw) := ⟨rfl, rfl, rfl, by decide +kernel, rfl, by decide +kernel, by decide +kernel⟩
theorem iteT {b : Bool} {p q : Prop} (h : b = true) (hp : p) : if b = true then p else q := by rw [if_pos h]; exact hp
theorem iteF {b : Bool} {p q : Prop} (h : b = false) (hq : q) : if b = true then p else q := by rw [if_neg (by rw [h]; decide)]; exact hq
theorem iteB {b : Bool} {p q : Prop} (hp : p) (hq : q) : if b = true then p else q := by cases b <;> assumption
theorem W__law_draw {P : Program} {w : World} {K : PySem.W.Frag} {mg : Str → Option Value} {base : Heap} {k : Nat} {f : Addr} {fd : FuncData} (F : Fun K "_law_draw" "_law_draw" st__law_draw f fd) (gx : mg "_law_draw" = some (.ref f)) (b : Binds K fd ["hand", "many"] [])
    (ml : mg "len" = none) (mi : mg "int" = none) : Has P w K mg base (k + 2) "_law_draw" 2 spDraw := by
  refine ⟨f, fd, _, rfl, gx, F.kp, b, fun M hM => ?_⟩
  refine fng_of F sc__law_draw (fun vs H Q E ⟨F, ds, QD, ED, g, r, l, _⟩ => by rw [r.length, l]; rfl) fun cdv A outer s H vs Q E hr ⟨F, ds, QD, ED, g, r, l, h, q1, q2⟩ => ?_
  have nd := sc__law_draw.nd
  obtain ⟨many, rfl, m0, m1, hq⟩ := h
  obtain ⟨x, xs, rfl, r0, y, ys, rfl, r1, r2⟩ := r
  obtain rfl : x = .ref M.hd := r0
  obtain rfl : y = .int many := r1
  obtain rfl : ys = [] := r2
  obtain ⟨c, hc, hfp, hinv⟩ := hM.hand
  obtain ⟨cells, i, r, m, n, h1, h2, hi⟩ := (hinv H).mp g.inv
  have ix : ∀ (H : Hp) (xs : List V) (j : Int) (v : V) (σ : L2.St) (Q : VK), σ[0]? = some (some (.ref M.hd)) → H M.hd = some (.lst xs) → atI xs j = some v → Q v H → tOp (rIxL K) (tVar 0) (tC (.int j)) σ H Q := fun H xs j v σ Q e1 e2 e3 e4 =>
    ⟨.ref M.hd, e1, M.hd, xs, j, v, rfl, rfl, .inl (.inl e2), e3, e4⟩
  have st : ∀ (H : Hp) (xs : List V) (j : Int) (jj : Nat) (v : V) (σ : L2.St) (Q : L2.St → Hp → Prop), σ[0]? = some (some (.ref M.hd)) → H M.hd = some (.lst xs) → ixN xs.length j = some jj → Q σ (upd H M.hd (.lst (xs.set jj v))) → gSub (tVar 0) (tC (.int j)) rSetL v σ H Q := fun H xs j jj v σ Q e1 e2 e3 e4 =>
    ⟨.ref M.hd, e1, M.hd, xs, j, jj, rfl, rfl, e2, e3, e4⟩
  have gu : ∀ (H1 : Hp) (xs : List V), Gr M F H F H1 → (∃ (cells : List Int) (i r m n : Int), xs = [.ref c, .int i, .int r, .int m, .int n] ∧ H1 c = some (.lst (cells.map V.int)) ∧ 0 ≤ i) → Gr M F H F (upd H1 M.hd (.lst xs)) := fun H1 xs g1 hx => by
    obtain ⟨cells, i, r, m, n, rfl, e2, e3⟩ := hx
    have fh : M.fp M.hd := (hfp _).mpr (.inl rfl)
    refine ⟨fun a o hf ha => ?_, g1.sub, fun a o ha => ?_, g1.off, g1.new, (hinv _).mpr ⟨cells, i, r, m, n, upd_same, ?_, e3⟩⟩
    · rw [upd_ne (fun z => hf (by rw [z]; exact fh))]; exact g1.ext a o hf ha
    · rw [upd_ne (fun z => g1.off a o ha (by rw [z]; exact fh))]; exact g1.inn a o ha
    · rw [upd_ne (Ne.symm hc)]; exact e2
  have fin : ∀ (H1 : Hp) (k : Int), Gr M F H F H1 → 0 ≤ k → k < many → Q (.int k) H1 := fun H1 k g1 k0 k1 => q1 _ H1 F (.int k) g1 rfl (hq k k0 k1)
  have key : ∃ T2, PSs (cxOf (L2.CX P w) P w K mg base N__law_draw "_law_draw" (defScope st__law_draw) f cdv A outer s H E) ((defBody st__law_draw).drop 1) T2 ∧ ∀ (H1 : Hp) (cells : List Int) (i r m n : Int) (v : Option V), Gr M F H F H1 → H1 M.hd = some (.lst [.ref c, .int i, .int r, .int m, .int n]) → H1 c = some (.lst (cells.map V.int)) → 0 ≤ i →
      T2 { nx := fun _ H2 => Q .non H2, rt := Q } [some (.ref M.hd), some (.int many), v, none, none] H1 := by
    refine ⟨_, (pss_cons (ps_if (pt_cmpR op_gt (pe_ix ix_list (pv 0) pe_int (fun _ _ => rfl)) pe_int (nomark _))
      (pss_cons (ps_set (i := 3) nd rfl (.inl rfl) (pe_op op_mod (pe_callTy call_int1 (by rfl) mi (by rfl) (pa_cons (pe_ix ix_list (pv 0) pe_int (fun _ _ => rfl)) pa_nil)) (pv 1)))
      (pss_cons (ps_asg (pe_op op_fdiv (pe_ix ix_list (pv 0) pe_int (fun _ _ => rfl)) (pv 1)) (pg_sub (pv 0) pe_int set_list) (by rfl) (by rfl) (by rfl))
      (pss_one (ps_ret (pv 3))))) pss_nil)
    (pss_cons (ps_asg (pe_op op_add (pe_ix ix_list (pv 0) pe_int (fun _ _ => rfl)) pe_int) (pg_sub (pv 0) pe_int set_list) (by rfl) (by rfl) (by rfl))
    (pss_cons (ps_set (i := 4) nd rfl (.inl rfl) (pe_op op_mod (pe_callTy call_int1 (by rfl) mi (by rfl) (pa_cons (pe_op op_mul (pe_callTy call_int1 (by rfl) mi (by rfl) (pa_cons (pe_op op_add (pe_ix ix_list (pv 0) pe_int (fun _ _ => rfl)) (pe_op op_mul pe_int (pe_ix ix_list (pv 0) pe_int (fun _ _ => rfl)))) pa_nil)) pe_int) pa_nil)) pe_int))
    (pss_cons (ps_set (i := 4) nd rfl (.inl rfl) (pe_op op_mod (pe_callTy call_int1 (by rfl) mi (by rfl) (pa_cons (pe_op op_mul (pv 4) (pe_op op_add (pe_op op_fdiv (pv 4) pe_int) pe_int)) pa_nil)) pe_int))
    (pss_cons (ps_set (i := 4) nd rfl (.inl rfl) (pe_op op_mod (pe_callTy call_int1 (by rfl) mi (by rfl) (pa_cons (pe_op op_mul (pv 4) (pe_op op_add (pe_op op_fdiv (pv 4) pe_int) pe_int)) pa_nil)) pe_int))
    (pss_one (ps_ret (pe_op op_mod (pe_callTy call_int1 (by rfl) mi (by rfl) (pa_cons (pe_op op_fdiv (pv 4) pe_int) pa_nil)) (pv 1))))))))), fun H1 cells i r m n v g1 e1 e2 e3 => ?_⟩
    show tOp (rIxL K) (tVar 0) (tC (.int 2)) _ H1 _
    refine ix H1 _ 2 (.int r) _ _ rfl e1 rfl ⟨r, 0, rfl, rfl, _, rfl, ?_⟩
    by_cases hr0 : 0 < r
    · refine iteT (decide_eq_true hr0) ?_
      show tOp (rIxL K) (tVar 0) (tC (.int 2)) _ H1 _
      refine ix H1 _ 2 (.int r) _ _ rfl e1 rfl (.inl ⟨r, rfl, _, rfl, r, many, rfl, rfl, m0, ?_⟩)
      show tOp (rIxL K) (tVar 0) (tC (.int 2)) _ H1 _
      refine ix H1 _ 2 (.int r) _ _ rfl e1 rfl ⟨_, rfl, r, many, rfl, rfl, ⟨m0, m1⟩, ?_⟩
      refine st H1 _ 2 2 _ _ _ rfl e1 rfl ⟨_, rfl, ?_⟩
      exact fin _ _ (gu H1 _ g1 ⟨cells, i, r / many, m, n, rfl, e2, e3⟩) (Int.emod_nonneg _ (Int.ne_of_gt m0)) (Int.emod_lt_of_pos _ m0)
    · refine iteF (decide_eq_false hr0) ?_
      show tOp (rIxL K) (tVar 0) (tC (.int 4)) _ H1 _
      refine ix H1 _ 4 (.int n) _ _ rfl e1 rfl ⟨n, 1, rfl, rfl, ?_⟩
      refine st H1 _ 4 4 _ _ _ rfl e1 rfl ?_
      have g2 := gu H1 [.ref c, .int i, .int r, .int m, .int (n + 1)] g1 ⟨cells, i, r, m, n + 1, rfl, e2, e3⟩
      show tOp (rIxL K) (tVar 0) (tC (.int 3)) _ _ _
      refine ix _ [.ref c, .int i, .int r, .int m, .int (n + 1)] 3 (.int m) _ _ rfl upd_same rfl ?_
      show tOp (rIxL K) (tVar 0) (tC (.int 4)) _ _ _
      refine ix _ [.ref c, .int i, .int r, .int m, .int (n + 1)] 4 (.int (n + 1)) _ _ rfl upd_same rfl ⟨_, n + 1, rfl, rfl, .inl (by decide), m, _, rfl, rfl, .inl ⟨_, rfl, ?_⟩⟩
      refine ⟨_, _, rfl, rfl, .inr (by decide), .inl ⟨_, rfl, _, _, rfl, rfl, (by show (0 : Int) < _; decide), ?_⟩⟩
      have nm : ∀ (x y : Int), 0 < y → y ≤ 2147483647 → (0 ≤ x % y ∧ x % y < 2147483647) := fun x y h h' => ⟨Int.emod_nonneg _ (Int.ne_of_gt h), Int.lt_of_lt_of_le (Int.emod_lt_of_pos _ h) h'⟩
      have lo : ∀ x : Int, 0 ≤ x → -(2 ^ 64) < x := fun x h => by omega
      have hi6 : ∀ x : Int, x < 2147483647 → x < 2 ^ 64 := fun x h => by omega
      have cm : ∀ (x y z : Int), 0 < y → y ≤ 2147483647 → CMul (x % y) z := fun x y z h h' => .inl ⟨lo _ (nm x y h h').1, hi6 _ (nm x y h h').2⟩
      refine ⟨_, rfl, _, rfl, _, _, rfl, rfl, ⟨by decide, by decide⟩, _, _, rfl, rfl, _, _, rfl, rfl, cm _ _ _ (by decide) (by decide), .inl ⟨_, rfl, _, _, rfl, rfl, (by show (0 : Int) < _; decide), ?_⟩⟩
      refine ⟨_, rfl, _, rfl, _, _, rfl, rfl, ⟨by decide, by decide⟩, _, _, rfl, rfl, _, _, rfl, rfl, cm _ _ _ (by decide) (by decide), .inl ⟨_, rfl, _, _, rfl, rfl, (by show (0 : Int) < _; decide), ?_⟩⟩
      refine ⟨_, rfl, _, _, rfl, rfl, ⟨by decide, by decide⟩, .inl ⟨_, rfl, _, rfl, _, many, rfl, rfl, m0, ?_⟩⟩
      exact fin _ _ g2 (Int.emod_nonneg _ (Int.ne_of_gt m0)) (Int.emod_lt_of_pos _ m0)
  obtain ⟨T2, hT2, key⟩ := key
  refine ⟨_, pss_cons (ps_if (PW.pt (pw_and (pt_cmpR op_eq (pe_ix ix_list (pv 0) pe_int (fun _ _ => rfl)) pe_int (nomark _)) (pw_and1 (pt_cmpR op_lt (pe_ix ix_list (pv 0) pe_int (fun _ _ => rfl)) (pe_callB call_len_seq (by rfl) ml PySem.boot_len (pa_cons (pe_ix ix_list (pv 0) pe_int (fun _ _ => rfl)) pa_nil)) (nomark _)))))
      (pss_cons (ps_set (i := 2) nd rfl (.inl rfl) (pe_ix ix_list (pe_ix ix_list (pv 0) pe_int (fun _ _ => rfl)) (pe_ix ix_list (pv 0) pe_int (fun _ _ => rfl)) (fun _ _ => rfl)))
      (pss_cons (ps_asg (pe_op op_add (pe_ix ix_list (pv 0) pe_int (fun _ _ => rfl)) pe_int) (pg_sub (pv 0) pe_int set_list) (by rfl) (by rfl) (by rfl))
      (pss_cons (ps_asg (pe_op op_mod (pe_callTy call_int1 (by rfl) mi (by rfl) (pa_cons (pe_op op_add (pe_op op_add (pe_op op_mul (pe_ix ix_list (pv 0) pe_int (fun _ _ => rfl)) pe_int) (pe_op op_mul (pv 2) pe_int)) pe_int) pa_nil)) pe_int) (pg_sub (pv 0) pe_int set_list) (by rfl) (by rfl) (by rfl))
      (pss_one (ps_if (pt_cmpR op_ge (pv 2) (pe_op op_pow pe_int pe_int) (nomark _)) (pss_one (ps_asg (pv 2) (pg_sub (pv 0) pe_int set_list) (by rfl) (by rfl) (by rfl))) pss_nil))))) pss_nil)
    hT2, ?_⟩
  show tOp (rIxL K) (tVar 0) (tC (.int 2)) _ H _
  refine ix H _ 2 (.int r) _ _ rfl h1 rfl ⟨rfl, _, rfl, ?_⟩
  by_cases hz : V.int r = V.int 0
  · refine iteT (decide_eq_true hz) ?_
    show tOp (rIxL K) (tVar 0) (tC (.int 1)) _ H _
    refine ix H _ 1 (.int i) _ _ rfl h1 rfl ?_
    show tOp (rIxL K) (tVar 0) (tC (.int 0)) _ H _
    refine ix H _ 0 (.ref c) _ _ rfl h1 rfl ⟨c, cells.map V.int, rfl, .inl (.inl (.inl h2)), i, _, rfl, rfl, _, rfl, ?_⟩
    by_cases hlt : i < ((cells.map V.int).length : Int)
    · refine iteT (decide_eq_true hlt) ?_
      show tOp (rIxL K) (tVar 0) (tC (.int 0)) _ H _
      refine ix H _ 0 (.ref c) _ _ rfl h1 rfl ?_
      show tOp (rIxL K) (tVar 0) (tC (.int 1)) _ H _
      have hl2 : i.toNat < cells.length := by simp at hlt; omega
      obtain ⟨z0, hat⟩ : ∃ z0 : Int, atI (cells.map V.int) i = some (.int z0) := ⟨cells[i.toNat], by
        have := atI_nat (xs := cells.map V.int) (j := i.toNat) (v := .int cells[i.toNat]) (by simp [hl2])
        rwa [Int.toNat_of_nonneg hi] at this⟩
      refine ix H _ 1 (.int i) _ _ rfl h1 rfl ⟨c, cells.map V.int, i, .int z0, rfl, rfl, .inl (.inl h2), hat, ?_⟩
      show tOp (rIxL K) (tVar 0) (tC (.int 1)) _ H _
      refine ix H _ 1 (.int i) _ _ rfl h1 rfl ⟨i, _, rfl, rfl, ?_⟩
      refine st H _ 1 1 _ _ _ rfl h1 rfl ?_
      have ga := gu H [.ref c, .int (i + 1 : Int), .int r, .int m, .int n] g ⟨cells, i + 1, r, m, n, rfl, h2, by omega⟩
      show tOp (rIxL K) (tVar 0) (tC (.int 3)) _ _ _
      refine ix _ [.ref c, .int (i + 1), .int r, .int m, .int n] 3 (.int m) _ _ rfl upd_same rfl ⟨_, _, rfl, rfl, .inr (by decide), _, rfl, _, _, rfl, rfl, .inr (by decide), _, _, rfl, rfl, _, _, rfl, rfl, .inl ⟨_, rfl, _, _, rfl, rfl, (by show (0 : Int) < _; decide), ?_⟩⟩
      refine st _ [.ref c, .int (i + 1), .int r, .int m, .int n] 3 3 _ _ _ rfl upd_same rfl ?_
      have gb : ∀ r2 m2 : Int, Gr M F H F (upd (upd H M.hd (.lst [.ref c, .int (i + 1), .int r, .int m, .int n])) M.hd (.lst [.ref c, .int (i + 1), .int r2, .int m2, .int n])) := fun r2 m2 => gu _ _ ga ⟨cells, i + 1, r2, m2, n, rfl, by rw [upd_ne (Ne.symm hc)]; exact h2, by omega⟩
      have hcc : ∀ (H2 : Hp) xs, H2 c = some (.lst (cells.map V.int)) → upd H2 M.hd xs c = some (.lst (cells.map V.int)) := fun H2 xs e => by rw [upd_ne (Ne.symm hc)]; exact e
      refine ⟨_, rfl, _, _, rfl, rfl, ⟨by decide, by decide, by decide⟩, _, _, rfl, rfl, _, rfl, ?_⟩
      refine iteB ?_ ?_
      · refine ⟨_, rfl, ?_⟩
        refine st _ [.ref c, .int (i + 1), .int r, .int _, .int n] 2 2 _ _ _ rfl upd_same rfl ?_
        refine key _ cells (i + 1) z0 _ n (some (.int z0)) ?_ upd_same (hcc _ _ (hcc _ _ (hcc _ _ h2))) (by omega)
        exact gu _ _ (gb _ _) ⟨cells, i + 1, z0, _, n, rfl, hcc _ _ (hcc _ _ h2), by omega⟩
      · exact key _ cells (i + 1) r _ n (some (.int z0)) (gb _ _) upd_same (hcc _ _ (hcc _ _ h2)) (by omega)
    · exact iteF (decide_eq_false hlt) (key H cells i r m n none g h1 h2 hi)
  · exact iteF (decide_eq_false hz) (iteF rfl (key H cells i r m n none g h1 h2 hi))
end KK
set_option maxHeartbeats 0
namespace KK
open PySem PySem.Spec PyProof.Rows L2 PL
theorem all_mk {l : PySem.W.OpenLaw} {w : World} {K : PySem.W.Frag} {h : Heap} {mg : Str → Option Value} {fa C_Group f__law_hand f__law_draw f__law_any f__law_rule f__law_wrong f__law_members f__law_times f__law_table f__law_called f__law_names f_is_tuple f_goes_together f_is_integer f_is_within f_Group___init__ f__law_row f_order_of f_orders_of f_order_counts f__law_is_plain f__law_is f_shared f_exponent f_lines f_is_even f_is_round f_law : Addr}
    {od__law_hand an__law_hand od__law_draw an__law_draw od__law_any an__law_any od__law_rule an__law_rule od__law_wrong an__law_wrong od__law_members an__law_members od__law_times an__law_times od__law_table an__law_table od__law_called an__law_called od__law_names an__law_names od_is_tuple an_is_tuple od_goes_together an_goes_together od_is_integer an_is_integer od_is_within an_is_within od_Group___init__ an_Group___init__ od__law_row an__law_row od_order_of an_order_of od_orders_of an_orders_of od_order_counts an_order_counts od__law_is_plain an__law_is_plain od__law_is an__law_is od_shared an_shared od_exponent an_exponent od_lines an_lines od_is_even an_is_even od_is_round an_is_round od_law an_law : Option Addr} {sl__law_hand sl__law_draw sl__law_any sl__law_rule sl__law_wrong sl__law_members sl__law_times sl__law_table sl__law_called sl__law_names sl_is_tuple sl_goes_together sl_is_integer sl_is_within sl_Group___init__ sl__law_row sl_order_of sl_orders_of sl_order_counts sl__law_is_plain sl__law_is sl_shared sl_exponent sl_lines sl_is_even sl_is_round sl_law : Array (Option Value)} {oc__law_hand kV__law_hand dc__law_hand pm__law_hand cd__law_hand ct__law_hand oc__law_draw kV__law_draw dc__law_draw pm__law_draw cd__law_draw ct__law_draw oc__law_any kV__law_any dc__law_any pm__law_any cd__law_any ct__law_any oc__law_rule kV__law_rule dc__law_rule pm__law_rule cd__law_rule ct__law_rule oc__law_wrong kV__law_wrong dc__law_wrong pm__law_wrong cd__law_wrong ct__law_wrong oc__law_members kV__law_members dc__law_members pm__law_members cd__law_members ct__law_members oc__law_times kV__law_times dc__law_times pm__law_times cd__law_times ct__law_times oc__law_table kV__law_table dc__law_table pm__law_table cd__law_table ct__law_table oc__law_called kV__law_called dc__law_called pm__law_called cd__law_called ct__law_called oc__law_names kV__law_names dc__law_names pm__law_names cd__law_names ct__law_names oc_is_tuple kV_is_tuple dc_is_tuple pm_is_tuple cd_is_tuple ct_is_tuple oc_goes_together kV_goes_together dc_goes_together pm_goes_together cd_goes_together ct_goes_together oc_is_integer kV_is_integer dc_is_integer pm_is_integer cd_is_integer ct_is_integer oc_is_within kV_is_within dc_is_within pm_is_within cd_is_within ct_is_within oc_Group___init__ kV_Group___init__ dc_Group___init__ pm_Group___init__ cd_Group___init__ ct_Group___init__ oc__law_row kV__law_row dc__law_row pm__law_row cd__law_row ct__law_row oc_order_of kV_order_of dc_order_of pm_order_of cd_order_of ct_order_of oc_orders_of kV_orders_of dc_orders_of pm_orders_of cd_orders_of ct_orders_of oc_order_counts kV_order_counts dc_order_counts pm_order_counts cd_order_counts ct_order_counts oc__law_is_plain kV__law_is_plain dc__law_is_plain pm__law_is_plain cd__law_is_plain ct__law_is_plain oc__law_is kV__law_is dc__law_is pm__law_is cd__law_is ct__law_is oc_shared kV_shared dc_shared pm_shared cd_shared ct_shared oc_exponent kV_exponent dc_exponent pm_exponent cd_exponent ct_exponent oc_lines kV_lines dc_lines pm_lines cd_lines ct_lines oc_is_even kV_is_even dc_is_even pm_is_even cd_is_even ct_is_even oc_is_round kV_is_round dc_is_round pm_is_round cd_is_round ct_is_round oc_law kV_law dc_law pm_law cd_law ct_law : Value} {t_MOST_MEMBERS : Nat}
    (X : K.In h) (G : h.Ns mainGlobals mg) (hfa : mg "law" = some (.ref fa))
    (aC_Group : PySem.W.nsIn K mainGlobals "Group" = some (some (.ref C_Group)))
    (pg_Group : PySem.W.plainGet K C_Group Str.empty = true)
    (hd_Group : PySem.W.hasDictIn K C_Group = true)
    (po_Group : PySem.W.plainOver K C_Group = true)
    (sa_Group : PySem.W.findIn K (.ref C_Group) "__setattr__" = some (some (.builtin "object.__setattr__")))
    (mk_Group : PySem.W.makesIn K C_Group = true)
    (kc_Group : PySem.W.keepIn K (.ref C_Group) = true)
    (n_Group_table : PySem.W.findIn K (.ref C_Group) "table" = some none)
    (n_Group_many : PySem.W.findIn K (.ref C_Group) "many" = some none)
    (n_Group_backs : PySem.W.findIn K (.ref C_Group) "backs" = some none)
    (a__law_hand : PySem.W.nsIn K mainGlobals "_law_hand" = some (some (.ref f__law_hand)))
    (l__law_hand : K.lookup f__law_hand = some ⟨oc__law_hand, od__law_hand, .func (PySem.W.fnOf "_law_hand" "_law_hand" (defArgs st__law_hand) (defBody st__law_hand) (defScope st__law_hand) .none kV__law_hand dc__law_hand pm__law_hand an__law_hand cd__law_hand ct__law_hand), sl__law_hand⟩)
    (c__law_hand : PySem.W.codeIn K cd__law_hand "_law_hand" = true)
    (k__law_hand : PySem.W.keepIn K (.ref f__law_hand) = true)
    (a__law_draw : PySem.W.nsIn K mainGlobals "_law_draw" = some (some (.ref f__law_draw)))
    (l__law_draw : K.lookup f__law_draw = some ⟨oc__law_draw, od__law_draw, .func (PySem.W.fnOf "_law_draw" "_law_draw" (defArgs st__law_draw) (defBody st__law_draw) (defScope st__law_draw) .none kV__law_draw dc__law_draw pm__law_draw an__law_draw cd__law_draw ct__law_draw), sl__law_draw⟩)
    (c__law_draw : PySem.W.codeIn K cd__law_draw "_law_draw" = true)
    (k__law_draw : PySem.W.keepIn K (.ref f__law_draw) = true)
    (a__law_any : PySem.W.nsIn K mainGlobals "_law_any" = some (some (.ref f__law_any)))
    (l__law_any : K.lookup f__law_any = some ⟨oc__law_any, od__law_any, .func (PySem.W.fnOf "_law_any" "_law_any" (defArgs st__law_any) (defBody st__law_any) (defScope st__law_any) .none kV__law_any dc__law_any pm__law_any an__law_any cd__law_any ct__law_any), sl__law_any⟩)
    (c__law_any : PySem.W.codeIn K cd__law_any "_law_any" = true)
    (k__law_any : PySem.W.keepIn K (.ref f__law_any) = true)
    (a__law_rule : PySem.W.nsIn K mainGlobals "_law_rule" = some (some (.ref f__law_rule)))
    (l__law_rule : K.lookup f__law_rule = some ⟨oc__law_rule, od__law_rule, .func (PySem.W.fnOf "_law_rule" "_law_rule" (defArgs st__law_rule) (defBody st__law_rule) (defScope st__law_rule) .none kV__law_rule dc__law_rule pm__law_rule an__law_rule cd__law_rule ct__law_rule), sl__law_rule⟩)
    (c__law_rule : PySem.W.codeIn K cd__law_rule "_law_rule" = true)
    (k__law_rule : PySem.W.keepIn K (.ref f__law_rule) = true)
    (a__law_wrong : PySem.W.nsIn K mainGlobals "_law_wrong" = some (some (.ref f__law_wrong)))
    (l__law_wrong : K.lookup f__law_wrong = some ⟨oc__law_wrong, od__law_wrong, .func (PySem.W.fnOf "_law_wrong" "_law_wrong" (defArgs st__law_wrong) (defBody st__law_wrong) (defScope st__law_wrong) .none kV__law_wrong dc__law_wrong pm__law_wrong an__law_wrong cd__law_wrong ct__law_wrong), sl__law_wrong⟩)
    (c__law_wrong : PySem.W.codeIn K cd__law_wrong "_law_wrong" = true)
    (k__law_wrong : PySem.W.keepIn K (.ref f__law_wrong) = true)
    (a__law_members : PySem.W.nsIn K mainGlobals "_law_members" = some (some (.ref f__law_members)))
    (l__law_members : K.lookup f__law_members = some ⟨oc__law_members, od__law_members, .func (PySem.W.fnOf "_law_members" "_law_members" (defArgs st__law_members) (defBody st__law_members) (defScope st__law_members) .none kV__law_members dc__law_members pm__law_members an__law_members cd__law_members ct__law_members), sl__law_members⟩)
    (c__law_members : PySem.W.codeIn K cd__law_members "_law_members" = true)
    (k__law_members : PySem.W.keepIn K (.ref f__law_members) = true)
    (a__law_times : PySem.W.nsIn K mainGlobals "_law_times" = some (some (.ref f__law_times)))
    (l__law_times : K.lookup f__law_times = some ⟨oc__law_times, od__law_times, .func (PySem.W.fnOf "_law_times" "_law_times" (defArgs st__law_times) (defBody st__law_times) (defScope st__law_times) .none kV__law_times dc__law_times pm__law_times an__law_times cd__law_times ct__law_times), sl__law_times⟩)
    (c__law_times : PySem.W.codeIn K cd__law_times "_law_times" = true)
    (k__law_times : PySem.W.keepIn K (.ref f__law_times) = true)
    (a__law_table : PySem.W.nsIn K mainGlobals "_law_table" = some (some (.ref f__law_table)))
    (l__law_table : K.lookup f__law_table = some ⟨oc__law_table, od__law_table, .func (PySem.W.fnOf "_law_table" "_law_table" (defArgs st__law_table) (defBody st__law_table) (defScope st__law_table) .none kV__law_table dc__law_table pm__law_table an__law_table cd__law_table ct__law_table), sl__law_table⟩)
    (c__law_table : PySem.W.codeIn K cd__law_table "_law_table" = true)
    (k__law_table : PySem.W.keepIn K (.ref f__law_table) = true)
    (a__law_called : PySem.W.nsIn K mainGlobals "_law_called" = some (some (.ref f__law_called)))
    (l__law_called : K.lookup f__law_called = some ⟨oc__law_called, od__law_called, .func (PySem.W.fnOf "_law_called" "_law_called" (defArgs st__law_called) (defBody st__law_called) (defScope st__law_called) .none kV__law_called dc__law_called pm__law_called an__law_called cd__law_called ct__law_called), sl__law_called⟩)
    (c__law_called : PySem.W.codeIn K cd__law_called "_law_called" = true)
    (k__law_called : PySem.W.keepIn K (.ref f__law_called) = true)
    (a__law_names : PySem.W.nsIn K mainGlobals "_law_names" = some (some (.ref f__law_names)))
    (l__law_names : K.lookup f__law_names = some ⟨oc__law_names, od__law_names, .func (PySem.W.fnOf "_law_names" "_law_names" (defArgs st__law_names) (defBody st__law_names) (defScope st__law_names) .none kV__law_names dc__law_names pm__law_names an__law_names cd__law_names ct__law_names), sl__law_names⟩)
    (c__law_names : PySem.W.codeIn K cd__law_names "_law_names" = true)
    (k__law_names : PySem.W.keepIn K (.ref f__law_names) = true)
    (a_is_tuple : PySem.W.nsIn K mainGlobals "is_tuple" = some (some (.ref f_is_tuple)))
    (l_is_tuple : K.lookup f_is_tuple = some ⟨oc_is_tuple, od_is_tuple, .func (PySem.W.fnOf "is_tuple" "is_tuple" (defArgs st_is_tuple) (defBody st_is_tuple) (defScope st_is_tuple) .none kV_is_tuple dc_is_tuple pm_is_tuple an_is_tuple cd_is_tuple ct_is_tuple), sl_is_tuple⟩)
    (c_is_tuple : PySem.W.codeIn K cd_is_tuple "is_tuple" = true)
    (k_is_tuple : PySem.W.keepIn K (.ref f_is_tuple) = true)
    (a_goes_together : PySem.W.nsIn K mainGlobals "goes_together" = some (some (.ref f_goes_together)))
    (l_goes_together : K.lookup f_goes_together = some ⟨oc_goes_together, od_goes_together, .func (PySem.W.fnOf "goes_together" "goes_together" (defArgs st_goes_together) (defBody st_goes_together) (defScope st_goes_together) .none kV_goes_together dc_goes_together pm_goes_together an_goes_together cd_goes_together ct_goes_together), sl_goes_together⟩)
    (c_goes_together : PySem.W.codeIn K cd_goes_together "goes_together" = true)
    (k_goes_together : PySem.W.keepIn K (.ref f_goes_together) = true)
    (a_is_integer : PySem.W.nsIn K mainGlobals "is_integer" = some (some (.ref f_is_integer)))
    (l_is_integer : K.lookup f_is_integer = some ⟨oc_is_integer, od_is_integer, .func (PySem.W.fnOf "is_integer" "is_integer" (defArgs st_is_integer) (defBody st_is_integer) (defScope st_is_integer) .none kV_is_integer dc_is_integer pm_is_integer an_is_integer cd_is_integer ct_is_integer), sl_is_integer⟩)
    (c_is_integer : PySem.W.codeIn K cd_is_integer "is_integer" = true)
    (k_is_integer : PySem.W.keepIn K (.ref f_is_integer) = true)
    (a_is_within : PySem.W.nsIn K mainGlobals "is_within" = some (some (.ref f_is_within)))
    (l_is_within : K.lookup f_is_within = some ⟨oc_is_within, od_is_within, .func (PySem.W.fnOf "is_within" "is_within" (defArgs st_is_within) (defBody st_is_within) (defScope st_is_within) .none kV_is_within dc_is_within pm_is_within an_is_within cd_is_within ct_is_within), sl_is_within⟩)
    (c_is_within : PySem.W.codeIn K cd_is_within "is_within" = true)
    (k_is_within : PySem.W.keepIn K (.ref f_is_within) = true)
    (a_Group___init__ : PySem.W.findIn K (.ref C_Group) "__init__" = some (some (.ref f_Group___init__)))
    (i_Group___init__ : PySem.W.isFn K (.ref f_Group___init__) = true)
    (l_Group___init__ : K.lookup f_Group___init__ = some ⟨oc_Group___init__, od_Group___init__, .func (PySem.W.fnOf "__init__" "Group.__init__" (defArgs st_Group___init__) (defBody st_Group___init__) (defScope st_Group___init__) .none kV_Group___init__ dc_Group___init__ pm_Group___init__ an_Group___init__ cd_Group___init__ ct_Group___init__), sl_Group___init__⟩)
    (c_Group___init__ : PySem.W.codeIn K cd_Group___init__ "Group.__init__" = true)
    (k_Group___init__ : PySem.W.keepIn K (.ref f_Group___init__) = true)
    (a__law_row : PySem.W.nsIn K mainGlobals "_law_row" = some (some (.ref f__law_row)))
    (l__law_row : K.lookup f__law_row = some ⟨oc__law_row, od__law_row, .func (PySem.W.fnOf "_law_row" "_law_row" (defArgs st__law_row) (defBody st__law_row) (defScope st__law_row) .none kV__law_row dc__law_row pm__law_row an__law_row cd__law_row ct__law_row), sl__law_row⟩)
    (c__law_row : PySem.W.codeIn K cd__law_row "_law_row" = true)
    (k__law_row : PySem.W.keepIn K (.ref f__law_row) = true)
    (a_order_of : PySem.W.nsIn K mainGlobals "order_of" = some (some (.ref f_order_of)))
    (l_order_of : K.lookup f_order_of = some ⟨oc_order_of, od_order_of, .func (PySem.W.fnOf "order_of" "order_of" (defArgs st_order_of) (defBody st_order_of) (defScope st_order_of) .none kV_order_of dc_order_of pm_order_of an_order_of cd_order_of ct_order_of), sl_order_of⟩)
    (c_order_of : PySem.W.codeIn K cd_order_of "order_of" = true)
    (k_order_of : PySem.W.keepIn K (.ref f_order_of) = true)
    (a_orders_of : PySem.W.nsIn K mainGlobals "orders_of" = some (some (.ref f_orders_of)))
    (l_orders_of : K.lookup f_orders_of = some ⟨oc_orders_of, od_orders_of, .func (PySem.W.fnOf "orders_of" "orders_of" (defArgs st_orders_of) (defBody st_orders_of) (defScope st_orders_of) .none kV_orders_of dc_orders_of pm_orders_of an_orders_of cd_orders_of ct_orders_of), sl_orders_of⟩)
    (c_orders_of : PySem.W.codeIn K cd_orders_of "orders_of" = true)
    (k_orders_of : PySem.W.keepIn K (.ref f_orders_of) = true)
    (a_order_counts : PySem.W.nsIn K mainGlobals "order_counts" = some (some (.ref f_order_counts)))
    (l_order_counts : K.lookup f_order_counts = some ⟨oc_order_counts, od_order_counts, .func (PySem.W.fnOf "order_counts" "order_counts" (defArgs st_order_counts) (defBody st_order_counts) (defScope st_order_counts) .none kV_order_counts dc_order_counts pm_order_counts an_order_counts cd_order_counts ct_order_counts), sl_order_counts⟩)
    (c_order_counts : PySem.W.codeIn K cd_order_counts "order_counts" = true)
    (k_order_counts : PySem.W.keepIn K (.ref f_order_counts) = true)
    (a__law_is_plain : PySem.W.nsIn K mainGlobals "_law_is_plain" = some (some (.ref f__law_is_plain)))
    (l__law_is_plain : K.lookup f__law_is_plain = some ⟨oc__law_is_plain, od__law_is_plain, .func (PySem.W.fnOf "_law_is_plain" "_law_is_plain" (defArgs st__law_is_plain) (defBody st__law_is_plain) (defScope st__law_is_plain) .none kV__law_is_plain dc__law_is_plain pm__law_is_plain an__law_is_plain cd__law_is_plain ct__law_is_plain), sl__law_is_plain⟩)
    (c__law_is_plain : PySem.W.codeIn K cd__law_is_plain "_law_is_plain" = true)
    (k__law_is_plain : PySem.W.keepIn K (.ref f__law_is_plain) = true)
    (a__law_is : PySem.W.nsIn K mainGlobals "_law_is" = some (some (.ref f__law_is)))
    (l__law_is : K.lookup f__law_is = some ⟨oc__law_is, od__law_is, .func (PySem.W.fnOf "_law_is" "_law_is" (defArgs st__law_is) (defBody st__law_is) (defScope st__law_is) .none kV__law_is dc__law_is pm__law_is an__law_is cd__law_is ct__law_is), sl__law_is⟩)
    (c__law_is : PySem.W.codeIn K cd__law_is "_law_is" = true)
    (k__law_is : PySem.W.keepIn K (.ref f__law_is) = true)
    (a_shared : PySem.W.nsIn K mainGlobals "shared" = some (some (.ref f_shared)))
    (l_shared : K.lookup f_shared = some ⟨oc_shared, od_shared, .func (PySem.W.fnOf "shared" "shared" (defArgs st_shared) (defBody st_shared) (defScope st_shared) .none kV_shared dc_shared pm_shared an_shared cd_shared ct_shared), sl_shared⟩)
    (c_shared : PySem.W.codeIn K cd_shared "shared" = true)
    (k_shared : PySem.W.keepIn K (.ref f_shared) = true)
    (a_exponent : PySem.W.nsIn K mainGlobals "exponent" = some (some (.ref f_exponent)))
    (l_exponent : K.lookup f_exponent = some ⟨oc_exponent, od_exponent, .func (PySem.W.fnOf "exponent" "exponent" (defArgs st_exponent) (defBody st_exponent) (defScope st_exponent) .none kV_exponent dc_exponent pm_exponent an_exponent cd_exponent ct_exponent), sl_exponent⟩)
    (c_exponent : PySem.W.codeIn K cd_exponent "exponent" = true)
    (k_exponent : PySem.W.keepIn K (.ref f_exponent) = true)
    (a_lines : PySem.W.nsIn K mainGlobals "lines" = some (some (.ref f_lines)))
    (l_lines : K.lookup f_lines = some ⟨oc_lines, od_lines, .func (PySem.W.fnOf "lines" "lines" (defArgs st_lines) (defBody st_lines) (defScope st_lines) .none kV_lines dc_lines pm_lines an_lines cd_lines ct_lines), sl_lines⟩)
    (c_lines : PySem.W.codeIn K cd_lines "lines" = true)
    (k_lines : PySem.W.keepIn K (.ref f_lines) = true)
    (a_is_even : PySem.W.nsIn K mainGlobals "is_even" = some (some (.ref f_is_even)))
    (l_is_even : K.lookup f_is_even = some ⟨oc_is_even, od_is_even, .func (PySem.W.fnOf "is_even" "is_even" (defArgs st_is_even) (defBody st_is_even) (defScope st_is_even) .none kV_is_even dc_is_even pm_is_even an_is_even cd_is_even ct_is_even), sl_is_even⟩)
    (c_is_even : PySem.W.codeIn K cd_is_even "is_even" = true)
    (k_is_even : PySem.W.keepIn K (.ref f_is_even) = true)
    (a_is_round : PySem.W.nsIn K mainGlobals "is_round" = some (some (.ref f_is_round)))
    (l_is_round : K.lookup f_is_round = some ⟨oc_is_round, od_is_round, .func (PySem.W.fnOf "is_round" "is_round" (defArgs st_is_round) (defBody st_is_round) (defScope st_is_round) .none kV_is_round dc_is_round pm_is_round an_is_round cd_is_round ct_is_round), sl_is_round⟩)
    (c_is_round : PySem.W.codeIn K cd_is_round "is_round" = true)
    (k_is_round : PySem.W.keepIn K (.ref f_is_round) = true)
    (a_law : PySem.W.nsIn K mainGlobals "law" = some (some (.ref f_law)))
    (l_law : K.lookup f_law = some ⟨oc_law, od_law, .func (PySem.W.fnOf "law" "law" (defArgs st_law) (defBody st_law) (defScope st_law) .none kV_law dc_law pm_law an_law cd_law ct_law), sl_law⟩)
    (c_law : PySem.W.codeIn K cd_law "law" = true)
    (k_law : PySem.W.keepIn K (.ref f_law) = true)
    (v_MOST_MEMBERS : PySem.W.nsIn K mainGlobals "MOST_MEMBERS" = some (some (.int 32 t_MOST_MEMBERS)))
    (z_abs : PySem.W.nsIn K mainGlobals "abs" = some none)
    (z_all : PySem.W.nsIn K mainGlobals "all" = some none)
    (z_bool : PySem.W.nsIn K mainGlobals "bool" = some none)
    (z_dict : PySem.W.nsIn K mainGlobals "dict" = some none)
    (z_enumerate : PySem.W.nsIn K mainGlobals "enumerate" = some none)
    (z_int : PySem.W.nsIn K mainGlobals "int" = some none)
    (z_isinstance : PySem.W.nsIn K mainGlobals "isinstance" = some none)
    (z_len : PySem.W.nsIn K mainGlobals "len" = some none)
    (z_list : PySem.W.nsIn K mainGlobals "list" = some none)
    (z_max : PySem.W.nsIn K mainGlobals "max" = some none)
    (z_range : PySem.W.nsIn K mainGlobals "range" = some none)
    (z_repr : PySem.W.nsIn K mainGlobals "repr" = some none)
    (z_set : PySem.W.nsIn K mainGlobals "set" = some none)
    (z_sorted : PySem.W.nsIn K mainGlobals "sorted" = some none)
    (z_tuple : PySem.W.nsIn K mainGlobals "tuple" = some none)
    (z_zip : PySem.W.nsIn K mainGlobals "zip" = some none)
    : ∃ fd : FuncData, (∀ (s : Shared) (u : Value), BindsTo s fd ⟨[u], []⟩ [("script", u)]) ∧ ∀ base : Heap, K.In base → base.Ns mainGlobals mg → FnG l.prog w K mg base 6 fa fd ["script"] (spLaw K) := by
  have e := hfa.symm.trans (PySem.W.mg_of X G a_law)
  cases e
  have m_abs := PySem.W.mg_none_of X G z_abs
  have m_all := PySem.W.mg_none_of X G z_all
  have m_bool := PySem.W.mg_none_of X G z_bool
  have m_dict := PySem.W.mg_none_of X G z_dict
  have m_enumerate := PySem.W.mg_none_of X G z_enumerate
  have m_int := PySem.W.mg_none_of X G z_int
  have m_isinstance := PySem.W.mg_none_of X G z_isinstance
  have m_len := PySem.W.mg_none_of X G z_len
  have m_list := PySem.W.mg_none_of X G z_list
  have m_max := PySem.W.mg_none_of X G z_max
  have m_range := PySem.W.mg_none_of X G z_range
  have m_repr := PySem.W.mg_none_of X G z_repr
  have m_set := PySem.W.mg_none_of X G z_set
  have m_sorted := PySem.W.mg_none_of X G z_sorted
  have m_tuple := PySem.W.mg_none_of X G z_tuple
  have m_zip := PySem.W.mg_none_of X G z_zip
  have c_MOST_MEMBERS : ∃ t, mg "MOST_MEMBERS" = some (.int 32 t) := ⟨_, PySem.W.mg_of X G v_MOST_MEMBERS⟩
  have T_Group : Cls K C_Group := ⟨pg_Group, hd_Group, po_Group, sa_Group⟩
  have cf_Group_table : ClsF K mg "Group" "table" := ⟨C_Group, PySem.W.mg_of X G aC_Group, T_Group, n_Group_table⟩
  have cf_Group_many : ClsF K mg "Group" "many" := ⟨C_Group, PySem.W.mg_of X G aC_Group, T_Group, n_Group_many⟩
  have cf_Group_backs : ClsF K mg "Group" "backs" := ⟨C_Group, PySem.W.mg_of X G aC_Group, T_Group, n_Group_backs⟩
  have fl_backs : ∀ c ∈ (["Group"] : List Str), ClsF K mg c "backs" := by
    intro c hc; simp only [List.mem_cons, List.not_mem_nil, or_false] at hc
    rcases hc with rfl
    · exact cf_Group_backs
  have fl_many : ∀ c ∈ (["Group"] : List Str), ClsF K mg c "many" := by
    intro c hc; simp only [List.mem_cons, List.not_mem_nil, or_false] at hc
    rcases hc with rfl
    · exact cf_Group_many
  have fl_table : ∀ c ∈ (["Group"] : List Str), ClsF K mg c "table" := by
    intro c hc; simp only [List.mem_cons, List.not_mem_nil, or_false] at hc
    rcases hc with rfl
    · exact cf_Group_table
  have F__law_hand := fun_mk (st := st__law_hand) l__law_hand c__law_hand k__law_hand
  have b__law_hand := F__law_hand.binds (ps := ["script"]) fun _ _ _ _ _ _ us hl => match us, hl with | [_], _ => rfl
  have F__law_draw := fun_mk (st := st__law_draw) l__law_draw c__law_draw k__law_draw
  have b__law_draw := F__law_draw.binds (ps := ["hand", "many"]) fun _ _ _ _ _ _ us hl => match us, hl with | [_, _], _ => rfl
  have F__law_any := fun_mk (st := st__law_any) l__law_any c__law_any k__law_any
  have b__law_any := F__law_any.binds (ps := ["hand", "some"]) fun _ _ _ _ _ _ us hl => match us, hl with | [_, _], _ => rfl
  have F__law_rule := fun_mk (st := st__law_rule) l__law_rule c__law_rule k__law_rule
  have b__law_rule := F__law_rule.binds (ps := ["hand"]) fun _ _ _ _ _ _ us hl => match us, hl with | [_], _ => rfl
  have F__law_wrong := fun_mk (st := st__law_wrong) l__law_wrong c__law_wrong k__law_wrong
  have b__law_wrong := F__law_wrong.binds (ps := ["row"]) fun _ _ _ _ _ _ us hl => match us, hl with | [_], _ => rfl
  have F__law_members := fun_mk (st := st__law_members) l__law_members c__law_members k__law_members
  have b__law_members := F__law_members.binds (ps := ["rule"]) fun _ _ _ _ _ _ us hl => match us, hl with | [_], _ => rfl
  have F__law_times := fun_mk (st := st__law_times) l__law_times c__law_times k__law_times
  have b__law_times := F__law_times.binds (ps := ["rule", "x", "y"]) fun _ _ _ _ _ _ us hl => match us, hl with | [_, _, _], _ => rfl
  have F__law_table := fun_mk (st := st__law_table) l__law_table c__law_table k__law_table
  have b__law_table := F__law_table.binds (ps := ["rule"]) fun _ _ _ _ _ _ us hl => match us, hl with | [_], _ => rfl
  have F__law_called := fun_mk (st := st__law_called) l__law_called c__law_called k__law_called
  have b__law_called := F__law_called.binds (ps := ["table", "told"]) fun _ _ _ _ _ _ us hl => match us, hl with | [_, _], _ => rfl
  have F__law_names := fun_mk (st := st__law_names) l__law_names c__law_names k__law_names
  have b__law_names := F__law_names.binds (ps := ["hand", "many"]) fun _ _ _ _ _ _ us hl => match us, hl with | [_, _], _ => rfl
  have F_is_tuple := fun_mk (st := st_is_tuple) l_is_tuple c_is_tuple k_is_tuple
  have b_is_tuple := F_is_tuple.binds (ps := ["thing", "least", "most"]) fun _ _ _ _ _ _ us hl => match us, hl with | [_, _, _], _ => rfl
  have F_goes_together := fun_mk (st := st_goes_together) l_goes_together c_goes_together k_goes_together
  have b_goes_together := F_goes_together.binds (ps := ["table"]) fun _ _ _ _ _ _ us hl => match us, hl with | [_], _ => rfl
  have F_is_integer := fun_mk (st := st_is_integer) l_is_integer c_is_integer k_is_integer
  have b_is_integer := F_is_integer.binds (ps := ["thing"]) fun _ _ _ _ _ _ us hl => match us, hl with | [_], _ => rfl
  have F_is_within := fun_mk (st := st_is_within) l_is_within c_is_within k_is_within
  have b_is_within := F_is_within.binds (ps := ["thing", "least", "most"]) fun _ _ _ _ _ _ us hl => match us, hl with | [_, _, _], _ => rfl
  have F_Group___init__ := fun_mk (st := st_Group___init__) l_Group___init__ c_Group___init__ k_Group___init__
  have b_Group___init__ := F_Group___init__.binds (ps := ["self", "table"]) fun _ _ _ _ _ _ us hl => match us, hl with | [_, _], _ => rfl
  have F__law_row := fun_mk (st := st__law_row) l__law_row c__law_row k__law_row
  have b__law_row := F__law_row.binds (ps := ["table", "one"]) fun _ _ _ _ _ _ us hl => match us, hl with | [_, _], _ => rfl
  have F_order_of := fun_mk (st := st_order_of) l_order_of c_order_of k_order_of
  have b_order_of := F_order_of.binds (ps := ["group", "one"]) fun _ _ _ _ _ _ us hl => match us, hl with | [_, _], _ => rfl
  have F_orders_of := fun_mk (st := st_orders_of) l_orders_of c_orders_of k_orders_of
  have b_orders_of := F_orders_of.binds (ps := ["group"]) fun _ _ _ _ _ _ us hl => match us, hl with | [_], _ => rfl
  have F_order_counts := fun_mk (st := st_order_counts) l_order_counts c_order_counts k_order_counts
  have b_order_counts := F_order_counts.binds (ps := ["group"]) fun _ _ _ _ _ _ us hl => match us, hl with | [_], _ => rfl
  have F__law_is_plain := fun_mk (st := st__law_is_plain) l__law_is_plain c__law_is_plain k__law_is_plain
  have b__law_is_plain := F__law_is_plain.binds (ps := ["rule"]) fun _ _ _ _ _ _ us hl => match us, hl with | [_], _ => rfl
  have F__law_is := fun_mk (st := st__law_is) l__law_is c__law_is k__law_is
  have b__law_is := F__law_is.binds (ps := ["got", "due"]) fun _ _ _ _ _ _ us hl => match us, hl with | [_, _], _ => rfl
  have F_shared := fun_mk (st := st_shared) l_shared c_shared k_shared
  have b_shared := F_shared.binds (ps := ["one", "other"]) fun _ _ _ _ _ _ us hl => match us, hl with | [_, _], _ => rfl
  have F_exponent := fun_mk (st := st_exponent) l_exponent c_exponent k_exponent
  have b_exponent := F_exponent.binds (ps := ["group"]) fun _ _ _ _ _ _ us hl => match us, hl with | [_], _ => rfl
  have F_lines := fun_mk (st := st_lines) l_lines c_lines k_lines
  have b_lines := F_lines.binds (ps := ["group"]) fun _ _ _ _ _ _ us hl => match us, hl with | [_], _ => rfl
  have F_is_even := fun_mk (st := st_is_even) l_is_even c_is_even k_is_even
  have b_is_even := F_is_even.binds (ps := ["group"]) fun _ _ _ _ _ _ us hl => match us, hl with | [_], _ => rfl
  have F_is_round := fun_mk (st := st_is_round) l_is_round c_is_round k_is_round
  have b_is_round := F_is_round.binds (ps := ["group"]) fun _ _ _ _ _ _ us hl => match us, hl with | [_], _ => rfl
  have F_law := fun_mk (st := st_law) l_law c_law k_law
  refine ⟨PySem.W.fnOf "law" "law" (defArgs st_law) (defBody st_law) (defScope st_law) .none kV_law dc_law pm_law an_law cd_law ct_law, fun s v => .of_eq rfl, fun base _ _ => ?_⟩
  have H__law_hand : FnG l.prog w K mg base 5 f__law_hand _ ["script"] (spHand K) := (W__law_hand (k := 1) F__law_hand m_int m_abs m_len S__law_hand).mono (by decide)
  have H__law_draw : Has l.prog w K mg base 2 "_law_draw" 2 spDraw := W__law_draw (k := 0) F__law_draw (PySem.W.mg_of X G a__law_draw) b__law_draw m_len m_int
  have H__law_any : Has l.prog w K mg base 3 "_law_any" 2 P__law_any := W__law_any (k := 1) F__law_any (PySem.W.mg_of X G a__law_any) b__law_any (H__law_draw.mono (by decide)) m_len
  have H__law_rule : Has l.prog w K mg base 4 "_law_rule" 1 P__law_rule := W__law_rule (k := 2) F__law_rule (PySem.W.mg_of X G a__law_rule) b__law_rule (H__law_draw.mono (by decide)) (H__law_any.mono (by decide))
  have H__law_wrong : Has l.prog w K mg base 2 "_law_wrong" 1 P__law_wrong := W__law_wrong (k := 0) F__law_wrong (PySem.W.mg_of X G a__law_wrong) b__law_wrong m_enumerate m_len
  have HF__law_members : Has l.prog w K mg base 2 "_law_members" 1 (fun _ _ _ => False) := has_false F__law_members rfl (PySem.W.mg_of X G a__law_members) b__law_members
  have H0__law_members : Has l.prog w K mg base 3 "_law_members" 1 P__law_members0 := W__law_members (k := 1) F__law_members (PySem.W.mg_of X G a__law_members) b__law_members m_range m_int (H__law_wrong.mono (by decide)) (HF__law_members.mono (by decide))
  have H__law_members : Has l.prog w K mg base 4 "_law_members" 1 P__law_members := W__law_members (k := 2) F__law_members (PySem.W.mg_of X G a__law_members) b__law_members m_range m_int (H__law_wrong.mono (by decide)) H0__law_members
  have H__law_times : Has l.prog w K mg base 2 "_law_times" 3 P__law_times := W__law_times (k := 0) F__law_times (PySem.W.mg_of X G a__law_times) b__law_times m_tuple m_zip m_int m_range
  have H__law_table : Has l.prog w K mg base 5 "_law_table" 1 P__law_table := W__law_table (k := 3) F__law_table (PySem.W.mg_of X G a__law_table) b__law_table (H__law_members.mono (by decide)) m_dict m_enumerate m_tuple (H__law_times.mono (by decide))
  have H__law_called : Has l.prog w K mg base 2 "_law_called" 2 P__law_called := W__law_called (k := 0) F__law_called (PySem.W.mg_of X G a__law_called) b__law_called m_len m_enumerate m_tuple
  have H__law_names : Has l.prog w K mg base 3 "_law_names" 2 P__law_names := W__law_names (k := 1) F__law_names (PySem.W.mg_of X G a__law_names) b__law_names m_range m_list m_len (H__law_draw.mono (by decide)) m_tuple
  have H_is_tuple : Has l.prog w K mg base 2 "is_tuple" 3 P_is_tuple := W_is_tuple (k := 0) F_is_tuple (PySem.W.mg_of X G a_is_tuple) b_is_tuple m_isinstance m_tuple m_len
  have H_goes_together : Has l.prog w K mg base 2 "goes_together" 1 P_goes_together := W_goes_together (k := 0) F_goes_together (PySem.W.mg_of X G a_goes_together) b_goes_together m_enumerate m_tuple
  have H_is_integer : Has l.prog w K mg base 2 "is_integer" 1 P_is_integer := W_is_integer (k := 0) F_is_integer (PySem.W.mg_of X G a_is_integer) b_is_integer m_isinstance m_int m_bool
  have H_is_within : Has l.prog w K mg base 3 "is_within" 3 P_is_within := W_is_within (k := 1) F_is_within (PySem.W.mg_of X G a_is_within) b_is_within (H_is_integer.mono (by decide))
  have H_Group : HasC l.prog w K mg base 4 "Group" 1 P_Group := W_Group___init__ (k := 2) F_Group___init__ (PySem.W.mg_of X G aC_Group) ⟨mk_Group, a_Group___init__, i_Group___init__, kc_Group⟩ b_Group___init__ (H_is_tuple.mono (by decide)) c_MOST_MEMBERS m_len m_enumerate m_all (H_is_within.mono (by decide)) m_list m_range (H_goes_together.mono (by decide)) cf_Group_table cf_Group_many m_tuple cf_Group_backs
  have H__law_row : Has l.prog w K mg base 2 "_law_row" 2 P__law_row := W__law_row (k := 0) F__law_row (PySem.W.mg_of X G a__law_row) b__law_row m_tuple
  have H_order_of : Has l.prog w K mg base 2 "order_of" 2 P_order_of := W_order_of (k := 0) F_order_of (PySem.W.mg_of X G a_order_of) b_order_of fl_table
  have H_orders_of : Has l.prog w K mg base 3 "orders_of" 1 P_orders_of := W_orders_of (k := 1) F_orders_of (PySem.W.mg_of X G a_orders_of) b_orders_of m_range fl_many (H_order_of.mono (by decide))
  have H_order_counts : Has l.prog w K mg base 4 "order_counts" 1 P_order_counts := W_order_counts (k := 2) F_order_counts (PySem.W.mg_of X G a_order_counts) b_order_counts (H_orders_of.mono (by decide)) m_sorted
  have H__law_is_plain : Has l.prog w K mg base 2 "_law_is_plain" 1 P__law_is_plain := W__law_is_plain (k := 0) F__law_is_plain (PySem.W.mg_of X G a__law_is_plain) b__law_is_plain m_enumerate m_int
  have H__law_is : Has l.prog w K mg base 2 "_law_is" 2 P__law_is := W__law_is (k := 0) F__law_is (PySem.W.mg_of X G a__law_is) b__law_is m_repr
  have H_shared : Has l.prog w K mg base 2 "shared" 2 P_shared := W_shared (k := 0) F_shared (PySem.W.mg_of X G a_shared) b_shared 
  have H_exponent : Has l.prog w K mg base 4 "exponent" 1 P_exponent := W_exponent (k := 2) F_exponent (PySem.W.mg_of X G a_exponent) b_exponent (H_orders_of.mono (by decide)) (H_shared.mono (by decide))
  have H_lines : Has l.prog w K mg base 2 "lines" 1 P_lines := W_lines (k := 0) F_lines (PySem.W.mg_of X G a_lines) b_lines m_range fl_many fl_table m_tuple
  have H_is_even : Has l.prog w K mg base 2 "is_even" 1 P_is_even := W_is_even (k := 0) F_is_even (PySem.W.mg_of X G a_is_even) b_is_even fl_table m_tuple m_list m_zip
  have H_is_round : Has l.prog w K mg base 4 "is_round" 1 P_is_round := W_is_round (k := 2) F_is_round (PySem.W.mg_of X G a_is_round) b_is_round fl_many (H_orders_of.mono (by decide))
  exact law_of (k := 5) F_law sc_law rfl H__law_hand (PySem.W.mg_of X G a__law_hand) k__law_hand b__law_hand (fun _ _ _ _ _ _ _ he => ps_set (i := 1) sc_law.nd rfl (.inl rfl) he) (fun _ _ _ _ _ _ => pv 0) (fun _ _ _ _ _ _ => by rfl) (fun _ _ _ _ _ _ => ⟨by decide, rfl, rfl⟩)
    (fun M hM cdv A outer s H E hr => W_law (k := 4) m_range (H__law_rule.mono (by decide)) (H__law_table.mono (by decide)) (H__law_called.mono (by decide)) (H__law_names.mono (by decide)) m_len (H_Group.mono (by decide)) (H__law_row.mono (by decide)) m_list (H_lines.mono (by decide)) m_isinstance (H_order_counts.mono (by decide)) m_sorted m_set m_all m_enumerate m_max (H__law_is_plain.mono (by decide)) (H__law_is.mono (by decide)) (H_is_even.mono (by decide)) (H_is_round.mono (by decide)) (H_exponent.mono (by decide)) M hM cdv A outer s H E hr) (by decide) S_law
end KK
open PySem PySem.W PyProof.Rows
set_option maxRecDepth 100000 in
set_option maxHeartbeats 0 in
theorem PySem.Challenge.cw_tablegroups_k03_whole_lines_and_what_is_holds : PySem.Challenge.rw_tablegroups_k03_whole_lines_and_what_is.Holds := by
  w_on; o_law; k_head; (case hw => w_witness2)
  k_fill
  refine PL.walk_g (l := PySem.Challenge.rw_tablegroups_k03_whole_lines_and_what_is) (n := 63) (k := 6) (s0 := "script") rfl (by decide) rfl ⟨⟨rfl, by decide, by decide⟩, rfl⟩ (fun w h Y => PySem.W.kIn_of Y) ?F
  case F =>
    intro w mg fa h KX G hmg
    refine' KK.all_mk KX G hmg ?aC_Group ?pg_Group ?hd_Group ?po_Group ?sa_Group ?mk_Group ?kc_Group ?n_Group_table ?n_Group_many ?n_Group_backs ?a__law_hand ?l__law_hand ?c__law_hand ?k__law_hand ?a__law_draw ?l__law_draw ?c__law_draw ?k__law_draw ?a__law_any ?l__law_any ?c__law_any ?k__law_any ?a__law_rule ?l__law_rule ?c__law_rule ?k__law_rule ?a__law_wrong ?l__law_wrong ?c__law_wrong ?k__law_wrong ?a__law_members ?l__law_members ?c__law_members ?k__law_members ?a__law_times ?l__law_times ?c__law_times ?k__law_times ?a__law_table ?l__law_table ?c__law_table ?k__law_table ?a__law_called ?l__law_called ?c__law_called ?k__law_called ?a__law_names ?l__law_names ?c__law_names ?k__law_names ?a_is_tuple ?l_is_tuple ?c_is_tuple ?k_is_tuple ?a_goes_together ?l_goes_together ?c_goes_together ?k_goes_together ?a_is_integer ?l_is_integer ?c_is_integer ?k_is_integer ?a_is_within ?l_is_within ?c_is_within ?k_is_within ?a_Group___init__ ?i_Group___init__ ?l_Group___init__ ?c_Group___init__ ?k_Group___init__ ?a__law_row ?l__law_row ?c__law_row ?k__law_row ?a_order_of ?l_order_of ?c_order_of ?k_order_of ?a_orders_of ?l_orders_of ?c_orders_of ?k_orders_of ?a_order_counts ?l_order_counts ?c_order_counts ?k_order_counts ?a__law_is_plain ?l__law_is_plain ?c__law_is_plain ?k__law_is_plain ?a__law_is ?l__law_is ?c__law_is ?k__law_is ?a_shared ?l_shared ?c_shared ?k_shared ?a_exponent ?l_exponent ?c_exponent ?k_exponent ?a_lines ?l_lines ?c_lines ?k_lines ?a_is_even ?l_is_even ?c_is_even ?k_is_even ?a_is_round ?l_is_round ?c_is_round ?k_is_round ?a_law ?l_law ?c_law ?k_law ?v_MOST_MEMBERS ?z_abs ?z_all ?z_bool ?z_dict ?z_enumerate ?z_int ?z_isinstance ?z_len ?z_list ?z_max ?z_range ?z_repr ?z_set ?z_sorted ?z_tuple ?z_zip
    (case aC_Group => k_is); (case pg_Group => k_is); (case hd_Group => k_is); (case po_Group => k_is); (case sa_Group => k_is); (case mk_Group => k_is); (case kc_Group => k_is); (case n_Group_table => k_is)
    (case n_Group_many => k_is); (case n_Group_backs => k_is); (case a__law_hand => k_is); (case l__law_hand => k_is); (case c__law_hand => k_is); (case k__law_hand => k_is); (case a__law_draw => k_is); (case l__law_draw => k_is)
    (case c__law_draw => k_is); (case k__law_draw => k_is); (case a__law_any => k_is); (case l__law_any => k_is); (case c__law_any => k_is); (case k__law_any => k_is); (case a__law_rule => k_is); (case l__law_rule => k_is)
    (case c__law_rule => k_is); (case k__law_rule => k_is); (case a__law_wrong => k_is); (case l__law_wrong => k_is); (case c__law_wrong => k_is); (case k__law_wrong => k_is); (case a__law_members => k_is); (case l__law_members => k_is)
    (case c__law_members => k_is); (case k__law_members => k_is); (case a__law_times => k_is); (case l__law_times => k_is); (case c__law_times => k_is); (case k__law_times => k_is); (case a__law_table => k_is); (case l__law_table => k_is)
    (case c__law_table => k_is); (case k__law_table => k_is); (case a__law_called => k_is); (case l__law_called => k_is); (case c__law_called => k_is); (case k__law_called => k_is); (case a__law_names => k_is); (case l__law_names => k_is)
    (case c__law_names => k_is); (case k__law_names => k_is); (case a_is_tuple => k_is); (case l_is_tuple => k_is); (case c_is_tuple => k_is); (case k_is_tuple => k_is); (case a_goes_together => k_is); (case l_goes_together => k_is)
    (case c_goes_together => k_is); (case k_goes_together => k_is); (case a_is_integer => k_is); (case l_is_integer => k_is); (case c_is_integer => k_is); (case k_is_integer => k_is); (case a_is_within => k_is); (case l_is_within => k_is)
    (case c_is_within => k_is); (case k_is_within => k_is); (case a_Group___init__ => k_is); (case i_Group___init__ => k_is); (case l_Group___init__ => k_is); (case c_Group___init__ => k_is); (case k_Group___init__ => k_is); (case a__law_row => k_is)
    (case l__law_row => k_is); (case c__law_row => k_is); (case k__law_row => k_is); (case a_order_of => k_is); (case l_order_of => k_is); (case c_order_of => k_is); (case k_order_of => k_is); (case a_orders_of => k_is)
    (case l_orders_of => k_is); (case c_orders_of => k_is); (case k_orders_of => k_is); (case a_order_counts => k_is); (case l_order_counts => k_is); (case c_order_counts => k_is); (case k_order_counts => k_is); (case a__law_is_plain => k_is)
    (case l__law_is_plain => k_is); (case c__law_is_plain => k_is); (case k__law_is_plain => k_is); (case a__law_is => k_is); (case l__law_is => k_is); (case c__law_is => k_is); (case k__law_is => k_is); (case a_shared => k_is)
    (case l_shared => k_is); (case c_shared => k_is); (case k_shared => k_is); (case a_exponent => k_is); (case l_exponent => k_is); (case c_exponent => k_is); (case k_exponent => k_is); (case a_lines => k_is)
    (case l_lines => k_is); (case c_lines => k_is); (case k_lines => k_is); (case a_is_even => k_is); (case l_is_even => k_is); (case c_is_even => k_is); (case k_is_even => k_is); (case a_is_round => k_is)
    (case l_is_round => k_is); (case c_is_round => k_is); (case k_is_round => k_is); (case a_law => k_is); (case l_law => k_is); (case c_law => k_is); (case k_law => k_is); (case v_MOST_MEMBERS => k_is)
    (case z_abs => k_is); (case z_all => k_is); (case z_bool => k_is); (case z_dict => k_is); (case z_enumerate => k_is); (case z_int => k_is); (case z_isinstance => k_is); (case z_len => k_is)
    (case z_list => k_is); (case z_max => k_is); (case z_range => k_is); (case z_repr => k_is); (case z_set => k_is); (case z_sorted => k_is); (case z_tuple => k_is); (case z_zip => k_is)
