import PyProof.Rows.All
import Wide.All
import OpenK.AllK
import Wide.FinOn
import PySem.Challenge.RW_nz0090_01

set_option Elab.async false
set_option maxRecDepth 100000
set_option linter.unusedVariables false
set_option linter.unusedSimpArgs false

namespace Mine
open PySem PySem.W PySem.Calls PyProof.Rows

inductive D where
  | none
  | bool (b : Bool)
  | int (i : Int)
  | str (l : List Nat)
  | bytes (l : List Int)
  | range (a b c : Int)
  | tup (l : List D)
  | lst (l : List D)
  deriving Inhabited

noncomputable def AddrSet := Addr → Prop

mutual
noncomputable def Rep (W : AddrSet) (h : Heap) : D → Value → Prop
  | .none, v => v = .none
  | .bool b, v => v = .bool b
  | .int i, v => ∃ t, v = .int i t
  | .str l, v => ∃ t, v = .str ⟨l.toArray⟩ t
  | .bytes l, v => (∀ n ∈ l, 0 ≤ n ∧ n < 256) ∧ ∃ t, v = .bytes (byteArr l) t
  | .range a b c, v => ∃ r t u x, v = .ref r ∧ ¬ W r ∧ IsRange h r a b c t u x
  | .tup l, v => ∃ a vs, v = .ref a ∧ ¬ W a ∧ h.IsTuple a vs.toArray ∧ RepL W h l vs
  | .lst l, v => ∃ a vs, v = .ref a ∧ ¬ W a ∧ h.PlainList a vs.toArray ∧ RepL W h l vs
noncomputable def RepL (W : AddrSet) (h : Heap) : List D → List Value → Prop
  | [], vs => vs = []
  | d :: ds, vs => ∃ v r, vs = v :: r ∧ Rep W h d v ∧ RepL W h ds r
end

theorem RepL.nil {W : AddrSet} {h : Heap} : RepL W h [] [] := by unfold RepL; rfl
theorem RepL.cons {W : AddrSet} {h : Heap} {d : D} {ds : List D} {v : Value} {vs : List Value} (a : Rep W h d v) (b : RepL W h ds vs) : RepL W h (d :: ds) (v :: vs) := by
  unfold RepL; exact ⟨v, vs, rfl, a, b⟩
theorem RepL.inv {W : AddrSet} {h : Heap} {d : D} {ds : List D} {vs : List Value} (x : RepL W h (d :: ds) vs) : ∃ v r, vs = v :: r ∧ Rep W h d v ∧ RepL W h ds r := by
  unfold RepL at x; exact x
theorem RepL.invNil {W : AddrSet} {h : Heap} {vs : List Value} (x : RepL W h [] vs) : vs = [] := by
  unfold RepL at x; exact x

mutual
theorem Rep.mono {W W' : AddrSet} {h h' : Heap} (hW : ∀ a, W' a → W a) (hk : ∀ a o, ¬ W a → h.get? a = some o → h'.get? a = some o) :
    ∀ (d : D) (v : Value), Rep W h d v → Rep W' h' d v
  | .none, v, x => by unfold Rep at x ⊢; exact x
  | .bool b, v, x => by unfold Rep at x ⊢; exact x
  | .int i, v, x => by unfold Rep at x ⊢; exact x
  | .str l, v, x => by unfold Rep at x ⊢; exact x
  | .bytes l, v, x => by unfold Rep at x ⊢; exact x
  | .range a b c, v, x => by
    unfold Rep at x ⊢
    obtain ⟨r, t, u, y, e, hr, ho⟩ := x
    exact ⟨r, t, u, y, e, fun q => hr (hW _ q), hk _ _ hr ho⟩
  | .tup l, v, x => by
    unfold Rep at x ⊢
    obtain ⟨a, vs, e, hr, ⟨o, ho, r⟩, hl⟩ := x
    exact ⟨a, vs, e, fun q => hr (hW _ q), ⟨o, hk _ _ hr ho, r⟩, RepL.mono hW hk l vs hl⟩
  | .lst l, v, x => by
    unfold Rep at x ⊢
    obtain ⟨a, vs, e, hr, ⟨n, ho⟩, hl⟩ := x
    exact ⟨a, vs, e, fun q => hr (hW _ q), ⟨n, hk _ _ hr ho⟩, RepL.mono hW hk l vs hl⟩
theorem RepL.mono {W W' : AddrSet} {h h' : Heap} (hW : ∀ a, W' a → W a) (hk : ∀ a o, ¬ W a → h.get? a = some o → h'.get? a = some o) :
    ∀ (ds : List D) (vs : List Value), RepL W h ds vs → RepL W' h' ds vs
  | [], vs, x => by unfold RepL at x ⊢; exact x
  | d :: ds, vs, x => by
    unfold RepL at x ⊢
    obtain ⟨v, r, e, a, b⟩ := x
    exact ⟨v, r, e, Rep.mono hW hk d v a, RepL.mono hW hk ds r b⟩
end

theorem Rep.keeps {W : AddrSet} {h h' : Heap} {d : D} {v : Value} (x : Rep W h d v) (hk : ∀ a o, h.get? a = some o → h'.get? a = some o) : Rep W h' d v :=
  Rep.mono (fun _ q => q) (fun a o _ e => hk a o e) d v x
theorem RepL.keeps {W : AddrSet} {h h' : Heap} {ds : List D} {vs : List Value} (x : RepL W h ds vs) (hk : ∀ a o, h.get? a = some o → h'.get? a = some o) : RepL W h' ds vs :=
  RepL.mono (fun _ q => q) (fun a o _ e => hk a o e) ds vs x

theorem RepL.len {W : AddrSet} {h : Heap} : ∀ {ds : List D} {vs : List Value}, RepL W h ds vs → vs.length = ds.length
  | [], vs, x => by rw [x.invNil]; rfl
  | d :: ds, vs, x => by
    obtain ⟨v, r, rfl, _, b⟩ := x.inv
    simp only [List.length_cons, b.len]
theorem RepL.get {W : AddrSet} {h : Heap} : ∀ {ds : List D} {vs : List Value}, RepL W h ds vs → ∀ {i : Nat} {d : D}, ds[i]? = some d → ∃ v, vs[i]? = some v ∧ Rep W h d v
  | [], vs, x, i, d, e => by simp at e
  | d :: ds, vs, x, 0, d', e => by
    obtain ⟨v, r, rfl, a, b⟩ := x.inv
    simp only [List.getElem?_cons_zero, Option.some.injEq] at e
    subst e
    exact ⟨v, rfl, a⟩
  | d :: ds, vs, x, i + 1, d', e => by
    obtain ⟨v, r, rfl, a, b⟩ := x.inv
    simp only [List.getElem?_cons_succ] at e ⊢
    exact b.get e
theorem RepL.getV {W : AddrSet} {h : Heap} : ∀ {ds : List D} {vs : List Value}, RepL W h ds vs → ∀ {i : Nat} {v : Value}, vs[i]? = some v → ∃ d, ds[i]? = some d ∧ Rep W h d v
  | [], vs, x, i, v, e => by rw [x.invNil] at e; simp at e
  | d :: ds, vs, x, 0, v', e => by
    obtain ⟨v, r, rfl, a, b⟩ := x.inv
    simp only [List.getElem?_cons_zero, Option.some.injEq] at e
    subst e
    exact ⟨d, rfl, a⟩
  | d :: ds, vs, x, i + 1, v', e => by
    obtain ⟨v, r, rfl, a, b⟩ := x.inv
    simp only [List.getElem?_cons_succ] at e ⊢
    exact b.getV e
theorem RepL.append {W : AddrSet} {h : Heap} : ∀ {ds : List D} {vs : List Value}, RepL W h ds vs → ∀ {es : List D} {ws : List Value}, RepL W h es ws → RepL W h (ds ++ es) (vs ++ ws)
  | [], vs, x, es, ws, y => by rw [x.invNil]; exact y
  | d :: ds, vs, x, es, ws, y => by
    obtain ⟨v, r, rfl, a, b⟩ := x.inv
    exact RepL.cons a (b.append y)
theorem RepL.drop {W : AddrSet} {h : Heap} : ∀ {ds : List D} {vs : List Value}, RepL W h ds vs → ∀ k : Nat, RepL W h (ds.drop k) (vs.drop k)
  | ds, vs, x, 0 => x
  | [], vs, x, k + 1 => by rw [x.invNil]; exact RepL.nil
  | d :: ds, vs, x, k + 1 => by
    obtain ⟨v, r, rfl, a, b⟩ := x.inv
    exact b.drop k
theorem RepL.take {W : AddrSet} {h : Heap} : ∀ {ds : List D} {vs : List Value}, RepL W h ds vs → ∀ k : Nat, RepL W h (ds.take k) (vs.take k)
  | ds, vs, x, 0 => by simp only [List.take_zero]; exact RepL.nil
  | [], vs, x, k + 1 => by rw [x.invNil]; exact RepL.nil
  | d :: ds, vs, x, k + 1 => by
    obtain ⟨v, r, rfl, a, b⟩ := x.inv
    exact RepL.cons a (b.take k)
theorem RepL.ints {W : AddrSet} {h : Heap} : ∀ {ns : List Int} {vs : List Value}, RepL W h (ns.map D.int) vs → IntsAre vs ns
  | [], vs, x => by rw [RepL.invNil x]; exact .nil
  | n :: ns, vs, x => by
    obtain ⟨v, r, rfl, a, b⟩ := RepL.inv x
    unfold Rep at a
    obtain ⟨t, rfl⟩ := a
    exact .cons n t (RepL.ints b)
theorem RepL.ofInts {W : AddrSet} {h : Heap} : ∀ {ns : List Int} {vs : List Value}, IntsAre vs ns → RepL W h (ns.map D.int) vs
  | _, _, .nil => RepL.nil
  | _, _, .cons n t r => RepL.cons (by unfold Rep; exact ⟨t, rfl⟩) (RepL.ofInts r)
theorem RepL.strs {W : AddrSet} {h : Heap} : ∀ {ns : List (List Nat)} {vs : List Value}, RepL W h (ns.map D.str) vs → StrsAre vs (ns.map fun l => ⟨l.toArray⟩)
  | [], vs, x => by rw [RepL.invNil x]; exact .nil
  | n :: ns, vs, x => by
    obtain ⟨v, r, rfl, a, b⟩ := RepL.inv x
    unfold Rep at a
    obtain ⟨t, rfl⟩ := a
    exact .cons _ t (RepL.strs b)

/-- lists of ints, of strs -/
noncomputable def intsOf : List D → Option (List Int)
  | [] => some []
  | .int i :: r => (intsOf r).map (i :: ·)
  | _ => Option.none
noncomputable def strsOf : List D → Option (List (List Nat))
  | [] => some []
  | .str i :: r => (strsOf r).map (i :: ·)
  | _ => Option.none
theorem intsOf_map (ns : List Int) : intsOf (ns.map D.int) = some ns := by
  induction ns with
  | nil => rfl
  | cons n ns ih => simp [intsOf, ih]
theorem strsOf_map (ns : List (List Nat)) : strsOf (ns.map D.str) = some ns := by
  induction ns with
  | nil => rfl
  | cons n ns ih => simp [strsOf, ih]
theorem intsOf_inv : ∀ {ds : List D} {ns : List Int}, intsOf ds = some ns → ds = ns.map D.int
  | [], ns, e => by simp [intsOf] at e; subst e; rfl
  | .int i :: r, ns, e => by
    simp only [intsOf, Option.map_eq_some_iff] at e
    obtain ⟨l, h1, rfl⟩ := e
    rw [intsOf_inv h1]; rfl
  | .none :: r, ns, e => by simp [intsOf] at e
  | .bool _ :: r, ns, e => by simp [intsOf] at e
  | .str _ :: r, ns, e => by simp [intsOf] at e
  | .bytes _ :: r, ns, e => by simp [intsOf] at e
  | .range _ _ _ :: r, ns, e => by simp [intsOf] at e
  | .tup _ :: r, ns, e => by simp [intsOf] at e
  | .lst _ :: r, ns, e => by simp [intsOf] at e
theorem strsOf_inv : ∀ {ds : List D} {ns : List (List Nat)}, strsOf ds = some ns → ds = ns.map D.str
  | [], ns, e => by simp [strsOf] at e; subst e; rfl
  | .str i :: r, ns, e => by
    simp only [strsOf, Option.map_eq_some_iff] at e
    obtain ⟨l, h1, rfl⟩ := e
    rw [strsOf_inv h1]; rfl
  | .none :: r, ns, e => by simp [strsOf] at e
  | .bool _ :: r, ns, e => by simp [strsOf] at e
  | .int _ :: r, ns, e => by simp [strsOf] at e
  | .bytes _ :: r, ns, e => by simp [strsOf] at e
  | .range _ _ _ :: r, ns, e => by simp [strsOf] at e
  | .tup _ :: r, ns, e => by simp [strsOf] at e
  | .lst _ :: r, ns, e => by simp [strsOf] at e

/-! the small language -/
inductive BOp where | add | sub | mul | fdiv | mod | pow | shl | shr | band | bor
  deriving DecidableEq
inductive COp where | eq | ne | lt | le | gt | ge | isin | notin
  deriving DecidableEq
inductive Prim where | len | chr | ord | str | bytes | list | range | max
  deriving DecidableEq

inductive X where
  | none
  | bool (b : Bool)
  | int (i : Int)
  | str (l : List Nat)
  | bytes (l : List Int)
  | var (i : Nat)
  | cvar
  | bin (op : BOp) (a b : X)
  | cmp (a : X) (ops : List COp) (bs : List X)
  | land (l : List X)
  | lor (l : List X)
  | ife (t a b : X)
  | item (a i : X)
  | from_ (a lo : X)
  | upto (a hi : X)
  | cut (a lo hi : X)
  | tup (l : List X)
  | lst (l : List X)
  | call (f : Nat) (args : List X)
  | prim (p : Prim) (args : List X)
  | join (arg : X)
  | index (a i : X)
  | comp (elt src : X)
  | filt (src test : X)
  deriving Inhabited

noncomputable def big : Nat := 16777216

noncomputable def evBin (op : BOp) (a b : D) : Option D := match op with
  | .add => (match a with
    | .int a => (match b with | .int b => some (.int (a + b)) | _ => Option.none)
    | .str x => (match b with | .str y => if x.length + y.length ≤ big then some (.str (x ++ y)) else Option.none | _ => Option.none)
    | .lst x => (match b with | .lst y => if x.length + y.length ≤ big then some (.lst (x ++ y)) else Option.none | _ => Option.none)
    | _ => Option.none)
  | .sub => (match a with | .int a => (match b with | .int b => some (.int (a - b)) | _ => Option.none) | _ => Option.none)
  | .mul => (match a with | .int a => (match b with | .int b => if -1073741824 < b ∧ b < 1073741824 then some (.int (a * b)) else Option.none | _ => Option.none) | _ => Option.none)
  | .fdiv => (match a with | .int a => (match b with | .int b => if 0 < b ∧ b < 1073741824 then some (.int (a / b)) else Option.none | _ => Option.none) | _ => Option.none)
  | .mod => (match a with | .int a => (match b with | .int b => if 0 < b ∧ b < 1073741824 then some (.int (a % b)) else Option.none | _ => Option.none) | _ => Option.none)
  | .pow => (match a with | .int a => (match b with | .int b => if 0 ≤ b ∧ b < 64 ∧ 0 ≤ a ∧ a < 1073741824 then some (.int (a ^ b.toNat)) else Option.none | _ => Option.none) | _ => Option.none)
  | .shl => (match a with | .int a => (match b with | .int b => if 0 ≤ b ∧ b < 64 ∧ 0 ≤ a ∧ a < 1073741824 then some (.int (a * 2 ^ b.toNat)) else Option.none | _ => Option.none) | _ => Option.none)
  | .shr => (match a with | .int a => (match b with | .int b => if 0 ≤ b ∧ b < 64 then some (.int (a / 2 ^ b.toNat)) else Option.none | _ => Option.none) | _ => Option.none)
  | .band => (match a with | .int a => (match b with | .int b => some (.int (Builtin.bitAnd a b)) | _ => Option.none) | _ => Option.none)
  | .bor => (match a with | .int a => (match b with | .int b => some (.int (Builtin.bitOr a b)) | _ => Option.none) | _ => Option.none)

noncomputable def strsOk (l : List (List Nat)) : Bool := l.all fun x => x.all (· < 1114112)
noncomputable def evEq (a b : D) : Option Bool := match a with
  | .int a => (match b with | .int b => some (a == b) | _ => Option.none)
  | .str a => (match b with | .str b => some (a == b) | _ => Option.none)
  | .bytes a => (match b with | .bytes b => some (a == b) | _ => Option.none)
  | .lst x => (match b with
    | .lst y => if x.length ≤ big ∧ y.length ≤ big then
      (match intsOf x, intsOf y with
      | some a, some b => some (a == b)
      | _, _ => match strsOf x, strsOf y with
        | some a, some b => if strsOk a && strsOk b then some (a == b) else Option.none
        | _, _ => Option.none) else Option.none
    | _ => Option.none)
  | _ => Option.none

noncomputable def evIn (a b : D) : Option Bool := match a with
  | .int a => (match b with | .lst y => if y.length ≤ big then (intsOf y).map fun l => l.contains a else Option.none | _ => Option.none)
  | .str a => (match b with | .tup y => if y.length ≤ big then (strsOf y).map fun l => l.contains a else Option.none | _ => Option.none)
  | _ => Option.none

theorem evIn_none : evIn .none .none = Option.none := by simp only [evIn]

noncomputable def evCmp (op : COp) (a b : D) : Option Bool := match op with
  | .eq => evEq a b
  | .ne => (evEq a b).map (!·)
  | .lt => (match a with | .int a => (match b with | .int b => some (decide (a < b)) | _ => Option.none) | _ => Option.none)
  | .le => (match a with | .int a => (match b with | .int b => some (decide (a ≤ b)) | _ => Option.none) | _ => Option.none)
  | .gt => (match a with | .int a => (match b with | .int b => some (decide (b < a)) | _ => Option.none) | _ => Option.none)
  | .ge => (match a with | .int a => (match b with | .int b => some (decide (b ≤ a)) | _ => Option.none) | _ => Option.none)
  | .isin => evIn a b
  | .notin => (evIn a b).map (!·)

noncomputable def rangeNum (a b c : Int) : Nat := (Builtin.Range.rangeSize a b c).toNat
noncomputable def rangeList (a b c : Int) : List Int := (List.range (rangeNum a b c)).map fun i : Nat => a + (i : Int) * c
noncomputable def rangeOk (a b c : Int) : Bool := Builtin.Range.small a b c && decide (0 ≤ Builtin.Range.rangeSize a b c) && decide (rangeNum a b c ≤ big)

noncomputable def itemsOf : D → Option (List D)
  | .lst l => if l.length ≤ big then some l else Option.none
  | .tup l => if l.length ≤ big then some l else Option.none
  | .bytes l => if l.length ≤ big then some (l.map .int) else Option.none
  | .str l => if l.length ≤ big then some (l.map fun c => .str [c]) else Option.none
  | .range a b c => if rangeOk a b c then some ((rangeList a b c).map .int) else Option.none
  | _ => Option.none

/-- the decimal digits of n ≥ 0 -/
noncomputable def decText (n : Int) : List Nat := (PySem.Str.ofString (toString n)).cps.toList

noncomputable def evPrim (p : Prim) (ds : List D) : Option D := match p with
  | .len => (match ds with
    | [x] => (match x with
      | .lst l => if l.length ≤ big then some (.int l.length) else Option.none
      | .bytes l => if l.length ≤ big then some (.int l.length) else Option.none
      | _ => Option.none)
    | _ => Option.none)
  | .chr => (match ds with
    | [x] => (match x with | .int i => if 0 ≤ i ∧ i ≤ 1114111 then some (.str [i.toNat]) else Option.none | _ => Option.none)
    | _ => Option.none)
  | .ord => (match ds with
    | [x] => (match x with | .str l => (match l with | [c] => some (.int c) | _ => Option.none) | _ => Option.none)
    | _ => Option.none)
  | .str => (match ds with
    | [x] => (match x with | .int i => if 0 ≤ i ∧ i < 10000000000 then some (.str (decText i)) else Option.none | _ => Option.none)
    | _ => Option.none)
  | .bytes => (match ds with
    | [x] => (match x with
      | .lst l => if l.length ≤ big then (match intsOf l with
        | some ns => if ns.all (fun n => decide (0 ≤ n) && decide (n < 256)) then some (.bytes ns) else Option.none
        | Option.none => Option.none) else Option.none
      | _ => Option.none)
    | _ => Option.none)
  | .list => (match ds with
    | [x] => (match x with | .range a b c => if rangeOk a b c then some (.lst ((rangeList a b c).map .int)) else Option.none | _ => Option.none)
    | _ => Option.none)
  | .range => (match ds with
    | [x] => (match x with | .int b => some (.range 0 b 1) | _ => Option.none)
    | [x, y] => (match x with | .int a => (match y with | .int b => some (.range a b 1) | _ => Option.none) | _ => Option.none)
    | [x, y, z] => (match x with | .int a => (match y with | .int b => (match z with | .int c => if c ≠ 0 ∧ -1073741824 < c ∧ c < 1073741824 then some (.range a b c) else Option.none | _ => Option.none) | _ => Option.none) | _ => Option.none)
    | _ => Option.none)
  | .max => (match ds with
    | [x, y] => (match x with | .int a => (match y with | .int b => some (.int (if b > a then b else a)) | _ => Option.none) | _ => Option.none)
    | _ => Option.none)

inductive Slot where
  | no
  | val (d : D)
  | own (l : List D)
  deriving Inhabited

noncomputable def evItem : D → Int → Option D
  | .lst l, k => if k < 0 then (if 0 ≤ k + l.length ∧ l.length ≤ big then l[(k + l.length).toNat]? else Option.none) else if k < big then l[k.toNat]? else Option.none
  | .tup l, k => if 0 ≤ k ∧ k < big then l[k.toNat]? else Option.none
  | .bytes l, k => if 0 ≤ k ∧ k < big ∧ l.length ≤ big then (l[k.toNat]?).map .int else Option.none
  | _, _ => Option.none

noncomputable def cutL {α : Type} (l : List α) (lo hi : Option Int) : List α :=
  match hi with
  | some y => (l.take y.toNat).drop (lo.getD 0).toNat
  | Option.none => l.drop (lo.getD 0).toNat
/-- slices whose bounds are not negative -/
noncomputable def evCut : D → Option Int → Option Int → Option D
  | .lst l, lo, hi => if 0 ≤ lo.getD 0 ∧ 0 ≤ hi.getD 0 ∧ l.length ≤ big then some (.lst (cutL l lo hi)) else Option.none
  | .bytes l, lo, hi => if 0 ≤ lo.getD 0 ∧ 0 ≤ hi.getD 0 ∧ l.length ≤ big then some (.bytes (cutL l lo hi)) else Option.none
  | _, _, _ => Option.none

noncomputable def evJoin : D → Option D
  | .lst l => if l.length ≤ big then (match strsOf l with
      | some xs => if xs.flatten.length ≤ big then some (.str xs.flatten) else Option.none
      | Option.none => Option.none) else Option.none
  | _ => Option.none

noncomputable def evIndex : D → D → Option D
  | .lst l, .int k => if l.length ≤ big then (match intsOf l with
      | some ns => if k ∈ ns then some (.int (ns.idxOf k : Nat)) else Option.none
      | Option.none => Option.none) else Option.none
  | _, _ => Option.none

noncomputable def chain : D → List COp → List (Option D) → Option Bool
  | d, [op], [r] => match r with | some e => evCmp op d e | Option.none => Option.none
  | d, op :: op' :: ops, r :: r' :: rs => match r with
    | some e => match evCmp op d e with
      | some true => chain e (op' :: ops) (r' :: rs)
      | some false => some false
      | Option.none => Option.none
    | Option.none => Option.none
  | _, _, _ => Option.none

noncomputable def allB : List (Option D) → Option Bool
  | [] => Option.none
  | [r] => match r with | some (.bool b) => some b | _ => Option.none
  | r :: rs => match r with
    | some (.bool true) => allB rs
    | some (.bool false) => some false
    | _ => Option.none
noncomputable def anyB' : List (Option D) → Option Bool
  | [] => Option.none
  | [r] => match r with | some (.bool b) => some b | _ => Option.none
  | r :: rs => match r with
    | some (.bool false) => anyB' rs
    | some (.bool true) => some true
    | _ => Option.none
noncomputable def seqO : List (Option D) → Option (List D)
  | [] => some []
  | some d :: r => match seqO r with | some l => some (d :: l) | Option.none => Option.none
  | Option.none :: _ => Option.none

noncomputable def scalar : D → Bool
  | .int _ => true
  | .str _ => true
  | _ => false
noncomputable def compL (f : D → Option D) : List D → Option (List D)
  | [] => some []
  | d :: r => match f d with
    | some y => if scalar y then (match compL f r with | some l => some (y :: l) | Option.none => Option.none) else Option.none
    | Option.none => Option.none
noncomputable def filtL (t : D → Option D) : List D → Option (List D)
  | [] => some []
  | d :: r => match t d with
    | some (.bool true) => (match filtL t r with | some l => some (d :: l) | Option.none => Option.none)
    | some (.bool false) => filtL t r
    | _ => Option.none

noncomputable abbrev FTab := Nat → List D → Option D

mutual
noncomputable def evE (F : FTab) (σ : List Slot) (cv : Option D) : X → Option D
  | .none => some .none
  | .bool b => some (.bool b)
  | .int i => some (.int i)
  | .str l => some (.str l)
  | .bytes l => if l.all (fun n => decide (0 ≤ n) && decide (n < 256)) then some (.bytes l) else Option.none
  | .var i => match σ[i]? with | some (.val d) => some d | _ => Option.none
  | .cvar => cv
  | .bin op a b => match evE F σ cv a with
    | some x => match evE F σ cv b with
      | some y => evBin op x y
      | Option.none => Option.none
    | Option.none => Option.none
  | .cmp a ops bs => match evE F σ cv a with
    | some x => match chain x ops (evEs F σ cv bs) with
      | some b => some (.bool b)
      | Option.none => Option.none
    | Option.none => Option.none
  | .land l => match allB (evEs F σ cv l) with | some b => some (.bool b) | Option.none => Option.none
  | .lor l => match anyB' (evEs F σ cv l) with | some b => some (.bool b) | Option.none => Option.none
  | .ife t a b => match evE F σ cv t with
    | some (.bool true) => evE F σ cv a
    | some (.bool false) => evE F σ cv b
    | _ => Option.none
  | .item a i => match evE F σ cv a with
    | some x => match evE F σ cv i with
      | some (.int k) => evItem x k
      | _ => Option.none
    | Option.none => Option.none
  | .from_ a lo => match evE F σ cv a with
    | some x => match evE F σ cv lo with
      | some (.int k) => evCut x (some k) Option.none
      | _ => Option.none
    | Option.none => Option.none
  | .upto a hi => match evE F σ cv a with
    | some x => match evE F σ cv hi with
      | some (.int k) => evCut x Option.none (some k)
      | _ => Option.none
    | Option.none => Option.none
  | .cut a lo hi => match evE F σ cv a with
    | some x => match evE F σ cv lo with
      | some (.int k) => (match evE F σ cv hi with
        | some (.int j) => evCut x (some k) (some j)
        | _ => Option.none)
      | _ => Option.none
    | Option.none => Option.none
  | .tup l => match seqO (evEs F σ cv l) with | some ds => some (.tup ds) | Option.none => Option.none
  | .lst l => match seqO (evEs F σ cv l) with | some ds => some (.lst ds) | Option.none => Option.none
  | .call f args => match seqO (evEs F σ cv args) with | some ds => F f ds | Option.none => Option.none
  | .prim p args => match seqO (evEs F σ cv args) with | some ds => evPrim p ds | Option.none => Option.none
  | .join a => match evE F σ cv a with
    | some y => evJoin y
    | Option.none => Option.none
  | .index a i => match evE F σ cv a with
    | some x => match evE F σ cv i with
      | some y => evIndex x y
      | Option.none => Option.none
    | Option.none => Option.none
  | .comp elt src => match cv with
    | some _ => Option.none
    | Option.none => match evE F σ cv src with
      | some x => match itemsOf x with
        | some l => match compL (fun d => evE F σ (some d) elt) l with
          | some r => some (.lst r)
          | Option.none => Option.none
        | Option.none => Option.none
      | Option.none => Option.none
  | .filt src test => match cv with
    | some _ => Option.none
    | Option.none => match evE F σ cv src with
      | some x => match itemsOf x with
        | some l => match filtL (fun d => evE F σ (some d) test) l with
          | some r => some (.lst r)
          | Option.none => Option.none
        | Option.none => Option.none
      | Option.none => Option.none
noncomputable def evEs (F : FTab) (σ : List Slot) (cv : Option D) : List X → List (Option D)
  | [] => []
  | x :: r => evE F σ cv x :: evEs F σ cv r
end

inductive T where
  | one (i : Nat)
  | many (l : List Nat)

inductive XS where
  | newl (i : Nat)
  | assign (i : Nat) (e : X)
  | assignC (i : Nat) (e : X)
  | unpack (l : List Nat) (e : X)
  | aug (i : Nat) (e : X)
  | append (i : Nat) (e : X)
  | extend (i : Nat) (e : X)
  | freeze (i : Nat)
  | for_ (t : T) (src : X) (body : List XS)
  | while_ (t : X) (body : List XS)
  | ite (t : X) (a b : List XS)
  | ret (e : X)
  | cont
  | stop

inductive Out where
  | next (σ : List Slot)
  | cont (σ : List Slot)
  | ret (d : D)

noncomputable def setMany : List Nat → List D → List Slot → Option (List Slot)
  | [], [], σ => some σ
  | i :: is, d :: ds, σ => setMany is ds (σ.set i (.val d))
  | _, _, _ => Option.none
noncomputable def setT : T → D → List Slot → Option (List Slot)
  | .one i, d, σ => some (σ.set i (.val d))
  | .many l, .tup ds, σ => if ds.length ≤ big then setMany l ds σ else Option.none
  | _, _, _ => Option.none

noncomputable def itemsFor : T → D → Option (List D)
  | .one _, d => itemsOf d
  | .many _, .lst l => itemsOf (.lst l)
  | _, _ => Option.none

noncomputable def forL (step : D → List Slot → Option Out) : List D → List Slot → Option Out
  | [], σ => some (.next σ)
  | d :: ds, σ => match step d σ with
    | some (.next σ') => forL step ds σ'
    | some (.cont σ') => forL step ds σ'
    | some (.ret r) => some (.ret r)
    | Option.none => Option.none
noncomputable def whileL (test : List Slot → Option D) (body : List Slot → Option Out) : Nat → List Slot → Option Out
  | 0, _ => Option.none
  | n + 1, σ => match test σ with
    | some (.bool true) => (match body σ with
      | some (.next σ') => whileL test body n σ'
      | some (.cont σ') => whileL test body n σ'
      | some (.ret r) => some (.ret r)
      | Option.none => Option.none)
    | some (.bool false) => some (.next σ)
    | _ => Option.none

noncomputable def evAppend (σ : List Slot) (i : Nat) (l : List D) : Option (List Slot) :=
  match σ[i]? with
  | some (.own ds) => if ds.length + l.length ≤ big then some (σ.set i (.own (ds ++ l))) else Option.none
  | _ => Option.none

mutual
noncomputable def exX (F : FTab) (wf : Nat) (σ : List Slot) : XS → Option Out
  | .newl i => if i < σ.length then some (.next (σ.set i (.own []))) else Option.none
  | .assign i e => match evE F σ Option.none e with
    | some d => some (.next (σ.set i (.val d)))
    | Option.none => Option.none
  | .assignC i e => match evE F σ Option.none e with
    | some d => some (.next (σ.set i (.val d)))
    | Option.none => Option.none
  | .unpack l e => match evE F σ Option.none e with
    | some d => (match setT (.many l) d σ with
      | some σ' => some (.next σ')
      | Option.none => Option.none)
    | Option.none => Option.none
  | .aug i e => match evE F σ Option.none (.var i) with
    | some (.int x) => (match evE F σ Option.none e with
      | some (.int y) => some (.next (σ.set i (.val (.int (x - y)))))
      | _ => Option.none)
    | _ => Option.none
  | .append i e => match evE F σ Option.none e with
    | some d => (match evAppend σ i [d] with
      | some σ' => some (.next σ')
      | Option.none => Option.none)
    | Option.none => Option.none
  | .extend i e => match evE F σ Option.none e with
    | some (.lst l) => (match evAppend σ i l with
      | some σ' => some (.next σ')
      | Option.none => Option.none)
    | _ => Option.none
  | .freeze i => match σ[i]? with
    | some (.own ds) => some (.next (σ.set i (.val (.lst ds))))
    | _ => Option.none
  | .for_ t src body => match evE F σ Option.none src with
    | some d => (match itemsFor t d with
      | some l => forL (fun d σ => match setT t d σ with
        | some σ' => exS F wf σ' body
        | Option.none => Option.none) l σ
      | Option.none => Option.none)
    | Option.none => Option.none
  | .while_ t body => whileL (fun σ => evE F σ Option.none t) (fun σ => exS F wf σ body) wf σ
  | .ite t a b => match evE F σ Option.none t with
    | some (.bool true) => exS F wf σ a
    | some (.bool false) => exS F wf σ b
    | _ => Option.none
  | .ret e => match evE F σ Option.none e with
    | some d => some (.ret d)
    | Option.none => Option.none
  | .cont => some (.cont σ)
  | .stop => Option.none
noncomputable def exS (F : FTab) (wf : Nat) (σ : List Slot) : List XS → Option Out
  | [] => some (.next σ)
  | s :: r => match exX F wf σ s with
    | some (.next σ') => exS F wf σ' r
    | some (.cont σ') => some (.cont σ')
    | some (.ret d) => some (.ret d)
    | Option.none => Option.none
end
end Mine

namespace Mine
open PySem PySem.W PySem.Calls PyProof.Rows PySem.SeqAt

theorem noneNot {α : Type} {a : α} {p : Prop} (h : none = some a) : p := by cases h
theorem falseNot {p : Prop} (h : false = true) : p := by cases h
theorem big_line : big = sizeLine := by rw [sizeLine_eq]; rfl
theorem big_val : big = 16777216 := rfl

section
variable {prog : Program} {w : World} {A : Around} {E : Value → Shared → Prop} {s : Shared} {W : AddrSet} {Q : Value → Shared → Prop}

theorem keeps_tok {s : Shared} (k : Nat) : Keeps s { s with toks := k } := ⟨s.heap, k, rfl, fun _ _ e => e⟩
theorem keeps_refl (s : Shared) : Keeps s s := ⟨s.heap, s.toks, rfl, fun _ _ e => e⟩
theorem keeps_trans {a b c : Shared} (x : Keeps a b) (y : Keeps b c) : Keeps a c := by
  obtain ⟨h, t, rfl, k⟩ := x
  obtain ⟨h', t', rfl, k'⟩ := y
  exact ⟨h', t', rfl, fun b o e => k' b o (k b o e)⟩
theorem keeps_push {s : Shared} (o : Obj) (t : Nat) : Keeps s { s with heap := s.heap.push o, toks := t } := ⟨_, _, rfl, fun _ _ e => Heap.get?_push_of_some _ e⟩
theorem Keeps.get {a b : Shared} (x : Keeps a b) : ∀ c o, a.heap.get? c = some o → b.heap.get? c = some o := by
  obtain ⟨h, t, rfl, k⟩ := x
  exact k

noncomputable def WOk (W : AddrSet) (h : Heap) : Prop := ∀ a, W a → ∃ o, h.get? a = some o
theorem WOk.keeps {W : AddrSet} {h h' : Heap} (x : WOk W h) (k : ∀ a o, h.get? a = some o → h'.get? a = some o) : WOk W h' := fun a ha => let ⟨o, e⟩ := x a ha; ⟨o, k _ _ e⟩
theorem WOk.fresh {W : AddrSet} {h : Heap} (x : WOk W h) : ¬ W h.objs.size := fun q => by
  obtain ⟨o, e⟩ := x _ q
  exact absurd (Heap.lt_size e) (Nat.lt_irrefl _)

theorem rep_int {h : Heap} (i : Int) (t : Tok) : Rep W h (.int i) (.int i t) := by unfold Rep; exact ⟨t, rfl⟩
theorem rep_bool {h : Heap} (b : Bool) : Rep W h (.bool b) (.bool b) := by unfold Rep; rfl
theorem rep_none {h : Heap} : Rep W h .none .none := by unfold Rep; rfl
theorem rep_str {h : Heap} (l : List Nat) (t : Tok) : Rep W h (.str l) (.str ⟨l.toArray⟩ t) := by unfold Rep; exact ⟨t, rfl⟩
theorem rep_str' {h : Heap} (x : PySem.Str) (t : Tok) : Rep W h (.str x.cps.toList) (.str x t) := by unfold Rep; exact ⟨t, rfl⟩

noncomputable def opOf : BOp → Operator
  | .add => .Add | .sub => .Sub | .mul => .Mult | .fdiv => .FloorDiv | .mod => .Mod | .pow => .Pow | .shl => .LShift | .shr => .RShift | .band => .BitAnd | .bor => .BitOr
noncomputable def opIs (p : BOp) (o : Operator) : Bool := decide (opOf p = o)

/-- two ints are asked for -/
noncomputable def int2 (f : Int → Int → Option D) (a b : D) : Option D := match a with | .int a => (match b with | .int b => f a b | _ => Option.none) | _ => Option.none
theorem int2_inv {f : Int → Int → Option D} {a b d : D} (h : int2 f a b = some d) : ∃ x y, a = .int x ∧ b = .int y ∧ f x y = some d := by
  cases a <;> try exact noneNot h
  cases b <;> try exact noneNot h
  exact ⟨_, _, rfl, rfl, h⟩
theorem rep_ints {W : AddrSet} {h : Heap} {x y : Int} {va vb : Value} (ha : Rep W h (.int x) va) (hb : Rep W h (.int y) vb) : ∃ t u, va = .int x t ∧ vb = .int y u := by
  unfold Rep at ha hb; obtain ⟨t, e⟩ := ha; obtain ⟨u, e'⟩ := hb
  exact ⟨t, u, e, e'⟩

theorem add_plain {l b : Addr} {vs ws : List Value} (hl : s.heap.PlainList l vs.toArray) (hb : s.heap.PlainList b ws.toArray)
    (h : Q (.ref s.heap.objs.size) { s with heap := s.heap.push { cls := .type "list", data := .seq (vs ++ ws).toArray } }) (hsz : vs.length + ws.length ≤ sizeLine) :
    wpAny (model prog w) A (binaryOp .Add (.ref l) (.ref b)) Q E s := by
  obtain ⟨n, ho⟩ := hl
  obtain ⟨n2, ho2⟩ := hb
  have e : vs.toArray ++ ws.toArray = (vs ++ ws).toArray := by simp
  refine concat_meets ⟨_, ho, rfl⟩ ⟨_, ho2, rfl⟩ noFill_list_add seq_list_add PySem.F.slot_list_add PySem.F.entry_list_add (PySem.F.args_list_add_2 _ _) (list_addW l b vs.toArray ws.toArray n n2 none none #[] #[] (by simpa using hsz)) ⟨ho, ho2, ?_⟩
  rw [e]
  exact h

theorem int_natAbs_lt {a : Int} {n : Nat} (h0 : 0 ≤ a) (h1 : a < n) : a.natAbs < n := by omega

theorem ifSome {p : Prop} [Decidable p] {α : Type} {x d : α} (h : (if p then some x else none) = some d) : p ∧ x = d := by
  by_cases q : p
  · rw [if_pos q] at h; exact ⟨q, Option.some.inj h⟩
  · rw [if_neg q] at h; cases h
theorem pos_ne {y : Int} (h : 0 < y) : y ≠ 0 := by omega
theorem small_nat {y : Int} (h : 0 < y ∧ y < 1073741824) : y.natAbs < 1073741824 := by omega
theorem mul_fits {x y : Int} (hr : -1073741824 < y ∧ y < 1073741824) : IntMulOk x y := IntMulOk.of_right (intBits_le_64 (by omega) (by omega))
theorem add_strs_ok {x y : List Nat} {d : D} {va vb : Value} (ha : Rep W s.heap (.str x) va) (hb : Rep W s.heap (.str y) vb)
    (he : (if x.length + y.length ≤ big then some (D.str (x ++ y)) else none) = some d) (h : ∀ v s', Keeps s s' → Rep W s'.heap d v → Q v s') : wpAny (model prog w) A (binaryOp .Add va vb) Q E s := by
  obtain ⟨hsz, rfl⟩ := ifSome he
  unfold Rep at ha hb; obtain ⟨t, rfl⟩ := ha; obtain ⟨u, rfl⟩ := hb
  refine PyProof.Rows.add_str (fun t' tk => ?_) (by show x.toArray.size + y.toArray.size ≤ _; rw [List.size_toArray, List.size_toArray, ← big_line]; exact hsz)
  refine h _ _ (keeps_tok _) ?_
  unfold Rep
  refine ⟨t', ?_⟩
  show Value.str ⟨x.toArray ++ y.toArray⟩ t' = _
  rw [List.append_toArray]
theorem add_lists_ok {x y : List D} {d : D} {va vb : Value} (wok : WOk W s.heap) (ha : Rep W s.heap (.lst x) va) (hb : Rep W s.heap (.lst y) vb)
    (he : (if x.length + y.length ≤ big then some (D.lst (x ++ y)) else none) = some d) (h : ∀ v s', Keeps s s' → Rep W s'.heap d v → Q v s') : wpAny (model prog w) A (binaryOp .Add va vb) Q E s := by
  obtain ⟨hsz, rfl⟩ := ifSome he
  unfold Rep at ha hb; obtain ⟨l, vs, rfl, hl, pl, rl⟩ := ha; obtain ⟨m, ws, rfl, hm, pm, rm⟩ := hb
  refine add_plain pl pm ?_ (by rw [rl.len, rm.len, ← big_line]; exact hsz)
  refine h _ _ (keeps_push _ _) ?_
  unfold Rep
  exact ⟨_, vs ++ ws, rfl, wok.fresh, ⟨0, Heap.get?_push_size _ rfl⟩, (rl.append rm).keeps fun _ _ e => Heap.get?_push_of_some _ e⟩
theorem pow_fits {x y : Int} {t u : Tok} (hr : 0 ≤ y ∧ y < 64 ∧ 0 ≤ x ∧ x < 1073741824) (h : Q (.int (x ^ y.toNat) s.toks) { s with toks := s.toks + 1 }) : wpAny (model prog w) A (binaryOp .Pow (.int x t) (.int y u)) Q E s := by
  refine PyProof.Rows.pow_int (by omega) ?_ h
  have hb64 := intBits_le_64 (k := x) (by omega) (by omega)
  have h1 : ((Builtin.Int.intBits x : Nat) : Int) * y ≤ 64 * 64 := Int.mul_le_mul (by omega) (by omega) (by omega) (by omega)
  omega
theorem shl_fits {x y : Int} {t u : Tok} (hr : 0 ≤ y ∧ y < 64 ∧ 0 ≤ x ∧ x < 1073741824) (h : Q (.int (x * 2 ^ y.toNat) s.toks) { s with toks := s.toks + 1 }) : wpAny (model prog w) A (binaryOp .LShift (.int x t) (.int y u)) Q E s := by
  have hb64 := intBits_le_64 (k := x) (by omega) (by omega)
  exact PyProof.Rows.lshift_int (by omega) (by omega) h

theorem bin_ok {op : BOp} {o : Operator} {a b d : D} {va vb : Value} (ho : opIs op o = true) (wok : WOk W s.heap) (ha : Rep W s.heap a va) (hb : Rep W s.heap b vb)
    (he : evBin op a b = some d) (h : ∀ v s', Keeps s s' → Rep W s'.heap d v → Q v s') : wpAny (model prog w) A (binaryOp o va vb) Q E s := by
  obtain rfl := of_decide_eq_true ho
  clear ho
  cases op
  case add =>
    cases a <;> try exact noneNot he
    · cases b <;> try exact noneNot he
      cases he
      obtain ⟨t, u, rfl, rfl⟩ := rep_ints ha hb
      exact PyProof.Rows.add_int (h _ _ (keeps_tok _) (rep_int _ _))
    · cases b <;> try exact noneNot he
      exact add_strs_ok ha hb he h
    · cases b <;> try exact noneNot he
      exact add_lists_ok wok ha hb he h
  all_goals
    obtain ⟨x, y, rfl, rfl, he⟩ := int2_inv he
    obtain ⟨t, u, rfl, rfl⟩ := rep_ints ha hb
    clear ha hb
  case sub => cases he; exact PyProof.Rows.sub_int (h _ _ (keeps_tok _) (rep_int _ _))
  case mul => obtain ⟨hr, he⟩ := ifSome he; subst he; exact PyProof.Rows.mul_int (h _ _ (keeps_tok _) (rep_int _ _)) (mul_fits hr)
  case fdiv =>
    obtain ⟨hr, he⟩ := ifSome he; subst he
    refine PyProof.Rows.floordiv_int (pos_ne hr.1) ?_ (.inl (PyProof.noPylong_small (small_nat hr)))
    rw [Int.fdiv_eq_ediv_of_nonneg _ (Int.le_of_lt hr.1)]
    exact h _ _ (keeps_tok _) (rep_int _ _)
  case mod =>
    obtain ⟨hr, he⟩ := ifSome he; subst he
    refine PyProof.Rows.mod_int (pos_ne hr.1) ?_
    rw [Int.fmod_eq_emod_of_nonneg _ (Int.le_of_lt hr.1)]
    exact h _ _ (keeps_tok _) (rep_int _ _)
  case pow => obtain ⟨hr, he⟩ := ifSome he; subst he; exact pow_fits hr (h _ _ (keeps_tok _) (rep_int _ _))
  case shl => obtain ⟨hr, he⟩ := ifSome he; subst he; exact shl_fits hr (h _ _ (keeps_tok _) (rep_int _ _))
  case shr =>
    obtain ⟨hr, he⟩ := ifSome he; subst he
    refine PyProof.Rows.rshift_int hr.1 ?_
    rw [Int.fdiv_eq_ediv_of_nonneg _ (Int.le_of_lt (Int.pow_pos (by decide)))]
    exact h _ _ (keeps_tok _) (rep_int _ _)
  case band => cases he; exact PyProof.Rows.and_int (h _ _ (keeps_tok _) (rep_int _ _))
  case bor => cases he; exact PyProof.Rows.or_int (h _ _ (keeps_tok _) (rep_int _ _))

noncomputable def copOf : COp → CmpOp
  | .eq => .Eq | .ne => .NotEq | .lt => .Lt | .le => .LtE | .gt => .Gt | .ge => .GtE | .isin => .In | .notin => .NotIn
noncomputable def copIs (p : COp) (o : CmpOp) : Bool := decide (copOf p = o)

theorem str_eq_beq (a b : List Nat) : ((⟨a.toArray⟩ : PySem.Str) == ⟨b.toArray⟩) = (a == b) := by
  rw [Bool.eq_iff_iff, beq_iff_eq, beq_iff_eq]
  constructor
  · intro h
    have := congrArg (fun x : PySem.Str => x.cps.toList) h
    simpa using this
  · rintro rfl; rfl

theorem byteArr_beq {a b : List Int} (ha : ∀ n ∈ a, 0 ≤ n ∧ n < 256) (hb : ∀ n ∈ b, 0 ≤ n ∧ n < 256) : ((byteArr a).toList == (byteArr b).toList) = (a == b) := by
  rw [Bool.eq_iff_iff, beq_iff_eq, beq_iff_eq]
  constructor
  · intro h
    have := congrArg (fun x : List UInt8 => KBw.bInts x.toArray) h
    simpa [KBa.ints_make ha, KBa.ints_make hb] using this
  · rintro rfl; rfl
end
end Mine

namespace Mine
open PySem PySem.W PySem.Calls PyProof.Rows PySem.SeqAt

section
variable {prog : Program} {w : World} {A : Around} {E : Value → Shared → Prop} {s : Shared} {W : AddrSet} {Q : Value → Shared → Prop}

theorem strs_carried : ∀ {vs : List Value} {ys : List PySem.Str}, StrsAre vs ys → CarriedAll vs (ys.map PyData.str)
  | _, _, .nil => .nil
  | _, _, .cons _ t r => .cons (.str _ t) (strs_carried r)
theorem canLayAll0_strs : ∀ ns : List (List Nat), strsOk ns = true → PyData.canLayAll0 ((ns.map fun l => (⟨l.toArray⟩ : PySem.Str)).map PyData.str) = true
  | [], _ => rfl
  | x :: r, h => by
    simp only [strsOk, List.all_cons, Bool.and_eq_true] at h
    have h2 := canLayAll0_strs r h.2
    simp only [List.map_cons, PyData.canLayAll0, PyData.canLay0, Bool.and_eq_true]
    refine ⟨?_, h2⟩
    show (x.toArray.all _) = true
    rw [List.all_toArray]
    exact h.1
theorem depthAll_strs : ∀ ns : List PySem.Str, PyData.depthAll (ns.map PyData.str) = 0
  | [] => rfl
  | _ :: r => by simp [PyData.depthAll, PyData.depth, depthAll_strs r]
theorem shaped_strs {ns : List (List Nat)} (h : strsOk ns = true) : SeqAt.shaped (.list ((ns.map fun l => (⟨l.toArray⟩ : PySem.Str)).map PyData.str)) = true := by
  simp only [SeqAt.shaped, PyData.canLay0, PyData.depth, canLayAll0_strs ns h, depthAll_strs]
  rfl
theorem sameAll_strs : ∀ ns ms : List (List Nat), PySem.Spec.sameAll ((ns.map fun l => (⟨l.toArray⟩ : PySem.Str)).map PyData.str) ((ms.map fun l => (⟨l.toArray⟩ : PySem.Str)).map PyData.str) = (ns == ms)
  | [], [] => by simp [PySem.Spec.sameAll]
  | [], _ :: _ => by simp [PySem.Spec.sameAll]
  | _ :: _, [] => by simp [PySem.Spec.sameAll]
  | a :: r, b :: t => by
    simp only [List.map_cons, PySem.Spec.sameAll, PySem.Spec.same, sameAll_strs r t, str_eq_beq]
    rfl

theorem eq_strs {a b : Addr} {xs ys : List Value} {ns ms : List (List Nat)} (ha : s.heap.IsList a xs.toArray) (hb : s.heap.IsList b ys.toArray) (hi : StrsAre xs (ns.map fun l => ⟨l.toArray⟩)) (hj : StrsAre ys (ms.map fun l => ⟨l.toArray⟩))
    (hn : strsOk ns = true) (hm : strsOk ms = true) (hu : A.units + 64 < cLine) (h : Q (.bool (ns == ms)) s) : wpAny (model prog w) A (compareOp .Eq (.ref a) (.ref b)) Q E s :=
  eq_dataH_same (reads_newData ha (strs_carried hi)) (reads_newData hb (strs_carried hj)) (shaped_strs hn) (shaped_strs hm) hu (SeqAt.noMix_of_shape (.list .str) rfl _ _ (list_map_has fun _ => rfl) (list_map_has fun _ => rfl))
    (by show Q (.bool (PySem.Spec.sameAll _ _)) s; rw [sameAll_strs]; exact h)
theorem ne_strs {a b : Addr} {xs ys : List Value} {ns ms : List (List Nat)} (ha : s.heap.IsList a xs.toArray) (hb : s.heap.IsList b ys.toArray) (hi : StrsAre xs (ns.map fun l => ⟨l.toArray⟩)) (hj : StrsAre ys (ms.map fun l => ⟨l.toArray⟩))
    (hn : strsOk ns = true) (hm : strsOk ms = true) (hu : A.units + 64 < cLine) (h : Q (.bool (!(ns == ms))) s) : wpAny (model prog w) A (compareOp .NotEq (.ref a) (.ref b)) Q E s :=
  ne_dataH_same (reads_newData ha (strs_carried hi)) (reads_newData hb (strs_carried hj)) (shaped_strs hn) (shaped_strs hm) hu (SeqAt.noMix_of_shape (.list .str) rfl _ _ (list_map_has fun _ => rfl) (list_map_has fun _ => rfl))
    (by show Q (.bool (!(PySem.Spec.sameAll _ _))) s; rw [sameAll_strs]; exact h)

/-- what is asked of the surroundings; k calls may nest yet -/
structure Room (A : Around) (k : Nat) : Prop where
  hh : A.handled = none
  depth : A.depth + k + 150 < recursionLimit
  units : A.units + 10 * k + 300 < cLine

theorem beq_dec (x y : List Int) : (x == y) = decide (x = y) := by rw [Bool.eq_iff_iff]; simp

theorem int2b_inv {f : Int → Int → Option Bool} {a b : D} {r : Bool} (h : (match a with | .int a => (match b with | .int b => f a b | _ => Option.none) | _ => Option.none) = some r) : ∃ x y, a = .int x ∧ b = .int y ∧ f x y = some r := by
  cases a <;> try exact noneNot h
  cases b <;> try exact noneNot h
  exact ⟨_, _, rfl, rfl, h⟩

/-- what two lists that are asked whether they are equal hold -/
theorem evEq_lst {x y : List D} {r : Bool} (h : evEq (.lst x) (.lst y) = some r) :
    (∃ a b : List Int, x = a.map D.int ∧ y = b.map D.int ∧ r = (a == b)) ∨ ∃ a b : List (List Nat), x = a.map D.str ∧ y = b.map D.str ∧ strsOk a = true ∧ strsOk b = true ∧ r = (a == b) := by
  unfold evEq at h
  dsimp only at h
  by_cases hb : x.length ≤ big ∧ y.length ≤ big
  · rw [if_pos hb] at h
    have second : (match strsOf x, strsOf y with | some a, some b => if strsOk a && strsOk b then some (a == b) else Option.none | _, _ => Option.none) = some r →
        ∃ a b : List (List Nat), x = a.map D.str ∧ y = b.map D.str ∧ strsOk a = true ∧ strsOk b = true ∧ r = (a == b) := fun h => by
      cases e1 : strsOf x with
      | none => rw [e1] at h; cases h
      | some a =>
        cases e2 : strsOf y with
        | none => rw [e1, e2] at h; cases h
        | some b =>
          rw [e1, e2] at h
          obtain ⟨hk, e⟩ := ifSome h
          rw [Bool.and_eq_true] at hk
          exact ⟨a, b, strsOf_inv e1, strsOf_inv e2, hk.1, hk.2, e.symm⟩
    cases e1 : intsOf x with
    | none => rw [e1] at h; exact .inr (second h)
    | some a =>
      cases e2 : intsOf y with
      | none => rw [e1, e2] at h; exact .inr (second h)
      | some b =>
        rw [e1, e2] at h
        cases h
        exact .inl ⟨a, b, intsOf_inv e1, intsOf_inv e2, rfl⟩
  · rw [if_neg hb] at h; cases h

theorem eq_ok {a b : D} {r : Bool} {va vb : Value} (hu : A.units + 64 < cLine) (ha : Rep W s.heap a va) (hb : Rep W s.heap b vb)
    (he : evEq a b = some r) (h : Q (.bool r) s) : wpAny (model prog w) A (compareOp .Eq va vb) Q E s := by
  cases a <;> try exact noneNot he
  all_goals (cases b <;> try exact noneNot he)
  · cases he
    obtain ⟨t, u, rfl, rfl⟩ := rep_ints ha hb
    exact PyProof.Rows.eq_int h
  · cases he
    unfold Rep at ha hb; obtain ⟨t, rfl⟩ := ha; obtain ⟨u, rfl⟩ := hb
    refine PyProof.Rows.eq_str ?_
    rw [str_eq_beq]
    exact h
  · cases he
    unfold Rep at ha hb; obtain ⟨ra, t, rfl⟩ := ha; obtain ⟨rb, u, rfl⟩ := hb
    refine eq_bytes ?_
    rw [byteArr_beq ra rb]
    exact h
  · unfold Rep at ha hb; obtain ⟨l, vs, rfl, hl, pl, rl⟩ := ha; obtain ⟨m, ws, rfl, hm, pm, rm⟩ := hb
    rcases evEq_lst he with ⟨x, y, rfl, rfl, rfl⟩ | ⟨x, y, rfl, rfl, h1, h2, rfl⟩
    · refine ke_eq_ints pl.isList pm.isList rl.ints rm.ints hu ?_
      rw [← beq_dec]
      exact h
    · exact eq_strs pl.isList pm.isList rl.strs rm.strs h1 h2 hu h

theorem ne_ok {a b : D} {r : Bool} {va vb : Value} (hu : A.units + 64 < cLine) (ha : Rep W s.heap a va) (hb : Rep W s.heap b vb)
    (he : evEq a b = some r) (h : Q (.bool (!r)) s) : wpAny (model prog w) A (compareOp .NotEq va vb) Q E s := by
  cases a <;> try exact noneNot he
  all_goals (cases b <;> try exact noneNot he)
  · cases he
    obtain ⟨t, u, rfl, rfl⟩ := rep_ints ha hb
    exact PyProof.Rows.ne_int h
  · cases he
    unfold Rep at ha hb; obtain ⟨t, rfl⟩ := ha; obtain ⟨u, rfl⟩ := hb
    refine PyProof.Rows.ne_str ?_
    rw [← str_eq_beq] at h
    exact h
  · cases he
    unfold Rep at ha hb; obtain ⟨ra, t, rfl⟩ := ha; obtain ⟨rb, u, rfl⟩ := hb
    refine ne_bytes ?_
    rw [← byteArr_beq ra rb] at h
    exact h
  · unfold Rep at ha hb; obtain ⟨l, vs, rfl, hl, pl, rl⟩ := ha; obtain ⟨m, ws, rfl, hm, pm, rm⟩ := hb
    rcases evEq_lst he with ⟨x, y, rfl, rfl, rfl⟩ | ⟨x, y, rfl, rfl, h1, h2, rfl⟩
    · refine ke_ne_ints pl.isList pm.isList rl.ints rm.ints hu ?_
      rw [← beq_dec]
      exact h
    · exact ne_strs pl.isList pm.isList rl.strs rm.strs h1 h2 hu h

theorem in_strs_any {x : List Nat} {ns : List (List Nat)} : (List.map (fun l => (⟨l.toArray⟩ : PySem.Str)) ns).any (· == ⟨x.toArray⟩) = ns.contains x := by
  rw [List.any_map, ← List.any_beq']
  congr 1; funext z; exact str_eq_beq _ _
theorem ifMap {p : Prop} [Decidable p] {α β : Type} {o : Option α} {f : α → β} {r : β} (h : (if p then o.map f else none) = some r) : ∃ a, o = some a ∧ f a = r := by
  by_cases q : p
  · rw [if_pos q] at h; exact Option.map_eq_some_iff.mp h
  · rw [if_neg q] at h; cases h

theorem in_ok {a b : D} {r : Bool} {va vb : Value} (ha : Rep W s.heap a va) (hb : Rep W s.heap b vb)
    (he : evIn a b = some r) (h : Q (.bool r) s) : wpAny (model prog w) A (compareOp .In va vb) Q E s := by
  cases a <;> try exact noneNot he
  all_goals (cases b <;> try exact noneNot he)
  · obtain ⟨ns, e1, rfl⟩ := ifMap he
    obtain rfl := intsOf_inv e1
    unfold Rep at ha hb; obtain ⟨t, rfl⟩ := ha; obtain ⟨m, ws, rfl, hm, pm, rm⟩ := hb
    refine in_list_ints pm.isList rm.ints ?_
    rw [List.any_beq']
    exact h
  · obtain ⟨ns, e1, rfl⟩ := ifMap he
    obtain rfl := strsOf_inv e1
    unfold Rep at ha hb; obtain ⟨t, rfl⟩ := ha; obtain ⟨m, ws, rfl, hm, pm, rm⟩ := hb
    refine in_tuple_strs pm rm.strs ?_
    rw [in_strs_any]
    exact h

theorem notin_ok {a b : D} {r : Bool} {va vb : Value} (ha : Rep W s.heap a va) (hb : Rep W s.heap b vb)
    (he : evIn a b = some r) (h : Q (.bool (!r)) s) : wpAny (model prog w) A (compareOp .NotIn va vb) Q E s := by
  cases a <;> try exact noneNot he
  all_goals (cases b <;> try exact noneNot he)
  · obtain ⟨ns, e1, rfl⟩ := ifMap he
    obtain rfl := intsOf_inv e1
    unfold Rep at ha hb; obtain ⟨t, rfl⟩ := ha; obtain ⟨m, ws, rfl, hm, pm, rm⟩ := hb
    refine notin_list_ints pm.isList rm.ints ?_
    rw [List.any_beq']
    exact h
  · obtain ⟨ns, e1, rfl⟩ := ifMap he
    obtain rfl := strsOf_inv e1
    unfold Rep at ha hb; obtain ⟨t, rfl⟩ := ha; obtain ⟨m, ws, rfl, hm, pm, rm⟩ := hb
    refine notin_tuple_strs pm rm.strs ?_
    rw [in_strs_any]
    exact h

theorem cmp_ok {k : Nat} {op : COp} {o : CmpOp} {a b : D} {r : Bool} {va vb : Value} (hA : Room A k) (ho : copIs op o = true) (ha : Rep W s.heap a va) (hb : Rep W s.heap b vb)
    (he : evCmp op a b = some r) (h : ∀ s', Keeps s s' → Q (.bool r) s') : wpAny (model prog w) A (compareOp o va vb) Q E s := by
  have hu : A.units + 64 < cLine := Nat.lt_of_le_of_lt (by have := hA.units; omega) hA.units
  have h := h _ (keeps_refl _)
  obtain rfl := of_decide_eq_true ho
  clear ho
  cases op
  case eq => exact eq_ok hu ha hb he h
  case ne =>
    obtain ⟨r', he2, rfl⟩ := Option.map_eq_some_iff.mp he
    exact ne_ok hu ha hb he2 h
  case isin => exact in_ok ha hb he h
  case notin =>
    obtain ⟨r', he2, rfl⟩ := Option.map_eq_some_iff.mp he
    exact notin_ok ha hb he2 h
  all_goals
    obtain ⟨x, y, rfl, rfl, he⟩ := int2b_inv he
    obtain ⟨t, u, rfl, rfl⟩ := rep_ints ha hb
    cases he
  · exact PyProof.Rows.lt_int h
  · exact PyProof.Rows.le_int h
  · exact PyProof.Rows.gt_int h
  · exact PyProof.Rows.ge_int h
end
end Mine

namespace Mine
open PySem PySem.W PySem.Calls PyProof.Rows PySem.SeqAt

section
variable {prog : Program} {w : World} {A : Around} {E : Value → Shared → Prop} {s : Shared} {W : AddrSet} {Q : Value → Shared → Prop}

theorem tail_go {value slice : Expr} {o i : Value} {ops : List Value} (h : ItemOn (model prog w) A E o i Q s)
    (hs : subscripted slice false o i = operate ops (getItem o i)) : wpAny (model prog w) A (subscriptTail value slice o i) Q E s := by
  obtain ⟨T, id, hl, hT, hg⟩ := h
  unfold subscriptTail
  refine wpAny_bind ?_
  rw [getitemInPython_of_ne hT.not_modules]
  refine wpAny_bind (wpAny_specialOf hT hl ?_)
  have fin : wpAny (model prog w) A (subscripted slice false o i) (fun r s₃ => wpAny (model prog w) A (letTemporaryGo value o r >>= fun _ => pure r) Q E s₃) E s := by
    rw [hs]
    exact wpAny_operating (wpAny_mono hg (fun r s₃ h₃ => wpAny_bind (wpAny_letTemporaryGo (wpAny_pure h₃))) fun _ _ x => x)
  first
    | exact wpAny_pure (wpAny_bind fin)
    | exact wpAny_bind (wpAny_pure (wpAny_bind fin))
    | exact wpAny_bind fin

theorem item_on {a d : D} {k : Int} {va vk : Value} (ha : Rep W s.heap a va) (hk : Rep W s.heap (.int k) vk)
    (he : evItem a k = some d) (h : ∀ v s', Keeps s s' → Rep W s'.heap d v → Q v s') : ItemOn (model prog w) A E va vk Q s := by
  unfold Rep at hk; obtain ⟨u, rfl⟩ := hk
  unfold evItem at he
  split at he
  · -- list
    unfold Rep at ha; obtain ⟨a, vs, rfl, ha, pl, rl⟩ := ha
    split at he
    · rename_i hneg
      split at he
      · rename_i hr
        obtain ⟨v, hv, rv⟩ := rl.get he
        refine ⟨"list", _, list_getitem_lookup, pl.isList.typeIs, wpAny_getItem_list_neg pl.isList hneg (by rw [List.size_toArray, rl.len]; omega) (by have := hr.2; rw [big_val] at this; omega) ?_ (h _ _ (keeps_refl _) rv)⟩
        rw [List.getElem?_toArray, List.size_toArray, rl.len]
        exact hv
      · cases he
    · split at he
      · rename_i hneg hlt
        obtain ⟨v, hv, rv⟩ := rl.get he
        refine ⟨"list", _, list_getitem_lookup, pl.isList.typeIs, wpAny_getItem_list pl.isList (by omega) (by rw [big_val] at hlt; omega) ?_ (h _ _ (keeps_refl _) rv)⟩
        rw [List.getElem?_toArray]
        exact hv
      · cases he
  · unfold Rep at ha; obtain ⟨a, vs, rfl, ha, pl, rl⟩ := ha
    split at he
    · rename_i hr
      obtain ⟨v, hv, rv⟩ := rl.get he
      have hlt : k.toNat < vs.length := (List.getElem?_eq_some_iff.mp hv).1
      have hr2 := hr.2
      rw [big_val] at hr2
      refine ⟨"tuple", _, PySem.F.slot_tuple_getitem.lookup, pl.typeIs, getItem_tuple (j := k.toNat) pl (by omega) (by omega) ?_ (by rw [List.getElem?_toArray]; exact hv) (h _ _ (keeps_refl _) rv)⟩
      rw [List.size_toArray]
      unfold seqIndex?
      have h1 : ¬ k < 0 := by omega
      simp only [h1, if_false]
      rw [if_pos]
      simp only [Bool.and_eq_true, decide_eq_true_eq]
      omega
    · cases he
  · unfold Rep at ha; obtain ⟨ra, t, rfl⟩ := ha
    rename_i _ l
    split at he
    · rename_i hr
      rw [Option.map_eq_some_iff] at he
      obtain ⟨n, hn, rfl⟩ := he
      have hlt : k.toNat < l.length := (List.getElem?_eq_some_iff.mp hn).1
      refine ⟨"bytes", _, FB.slot_bytes_getitem.lookup, typeIs_bytes _ _ _, ?_⟩
      have e : (byteArr l).toList.toArray = byteArr l := Array.toArray_toList
      have hbi : KBw.bInts (byteArr l) = l := KBa.ints_make ra
      have hsz := byteArr_size l
      have hg : wpAny (model prog w) A (getItem (.bytes (byteArr l).toList.toArray t) (.int k u)) Q E s := by
        refine getItem_bytes (l := (byteArr l).toList) (by rw [Array.length_toList, hsz]; have := hr.2.2; rw [big_val] at this; omega) hr.1 (by rw [Array.length_toList, hsz]; omega) ?_
        rw [KBw.getD_ints]
        have e2 : (List.map (fun c : UInt8 => ((c.toNat : Nat) : Int)) (byteArr l).toList) = l := hbi
        rw [e2, List.getD_eq_getElem?_getD, hn]
        exact h _ _ (keeps_tok _) (rep_int _ _)
      rw [e] at hg
      exact hg
    · cases he
  · cases he

theorem byteArr_bInts (b : Array UInt8) : byteArr (KBw.bInts b) = b := by
  unfold byteArr KBw.bInts
  rw [List.map_map]
  have : (fun n : Int => n.toNat.toUInt8) ∘ (fun c : UInt8 => (c.toNat : Int)) = id := by
    funext c
    simp
  rw [this, List.map_id]

theorem cut_list (α : Type) (l : List α) (lo hi : Option Int) (h0 : 0 ≤ lo.getD 0) (h1 : 0 ≤ hi.getD 0) :
    (l.drop (lo.elim 0 (clipAt l.length))).take (hi.elim l.length (clipAt l.length) - lo.elim 0 (clipAt l.length)) =
      cutL l lo hi := by
  unfold cutL
  have hlo : l.drop (lo.elim 0 (clipAt l.length)) = l.drop (lo.getD 0).toNat ∧ lo.elim 0 (clipAt l.length) = min (lo.getD 0).toNat l.length := by
    cases lo with
    | none => simp
    | some x =>
      simp only [Option.getD_some] at h0 ⊢
      obtain ⟨n, rfl⟩ := Int.eq_ofNat_of_zero_le h0
      simp only [Option.elim, clipAt_nat, Int.toNat_natCast, and_true]
      rcases Nat.le_total n l.length with h | h
      · rw [Nat.min_eq_left h]
      · rw [Nat.min_eq_right h, List.drop_of_length_le (Nat.le_refl _), List.drop_of_length_le h]
  rw [hlo.1, hlo.2]
  cases hi with
  | none =>
    simp only [Option.elim]
    rw [List.take_of_length_le]
    rw [List.length_drop]
    omega
  | some y =>
    simp only [Option.getD_some] at h1
    obtain ⟨n, rfl⟩ := Int.eq_ofNat_of_zero_le h1
    simp only [Option.elim, clipAt_nat, Int.toNat_natCast]
    rw [List.drop_take]
    rcases Nat.le_total (lo.getD 0).toNat l.length with h | h
    · rw [Nat.min_eq_left h]
      rcases Nat.le_total n l.length with h' | h'
      · rw [Nat.min_eq_left h']
      · rw [Nat.min_eq_right h', List.take_of_length_le (by rw [List.length_drop]; omega), List.take_of_length_le (by rw [List.length_drop]; omega)]
    · rw [List.drop_of_length_le h]; simp

theorem cut_on {a d : D} {lo hi : Option Int} {va vl vu : Value} (wok : WOk W s.heap) (ha : Rep W s.heap a va) (pl : IsPart vl lo) (pu : IsPart vu hi)
    (he : evCut a lo hi = some d) (h : ∀ v s', Keeps s s' → Rep W s'.heap d v → Q v s') :
    ItemOn (model prog w) A E va (.ref s.heap.objs.size) Q { s with heap := s.heap.push { cls := .type "slice", data := .fields #[vl, vu, .none] } } := by
  unfold evCut at he
  split at he
  · rename_i _ _ l
    split at he
    · rename_i hr
      cases he
      unfold Rep at ha; obtain ⟨a, vs, rfl, ha, pa, rl⟩ := ha
      have hpl := pa.isList.push { cls := .type "slice", data := .fields #[vl, vu, .none] }
      refine ⟨"list", _, list_getitem_lookup, Heap.IsList.typeIs (s := { s with heap := s.heap.push _ }) hpl,
        wpAny_getItem_list_slice hpl (Heap.IsSliceOf.new ..) pl pu .none (by simp) ?_ (by rw [List.size_toArray, rl.len, ← big_line]; exact hr.2.2)⟩
      have hsz : (s.heap.push { cls := .type "slice", data := .fields #[vl, vu, .none] }).objs.size = s.heap.objs.size + 1 := Heap.size_push _ _
      refine h _ _ ⟨_, s.toks, rfl, fun _ _ e => Heap.get?_push_of_some _ (Heap.get?_push_of_some _ e)⟩ ?_
      unfold Rep
      refine ⟨_, ((vs.drop (lo.elim 0 (clipAt vs.length))).take (hi.elim vs.length (clipAt vs.length) - lo.elim 0 (clipAt vs.length))), rfl, ?_, ⟨0, ?_⟩, ?_⟩
      · exact (wok.keeps (fun _ _ e => Heap.get?_push_of_some _ e)).fresh
      · have e := slicePick_plain vs.toArray lo hi
        rw [List.size_toArray] at e
        rw [← e]
        exact Heap.get?_push_size _ rfl
      · rw [← cut_list _ l lo hi hr.1 hr.2.1, ← rl.len]
        exact ((rl.drop _).take _).keeps fun _ _ e => Heap.get?_push_of_some _ (Heap.get?_push_of_some _ e)
    · cases he
  · rename_i _ _ l
    split at he
    · rename_i hr
      cases he
      unfold Rep at ha; obtain ⟨ra, t, rfl⟩ := ha
      have hbi : KBw.bInts (byteArr l) = l := KBa.ints_make ra
      refine ⟨"bytes", _, FB.slot_bytes_getitem.lookup, typeIs_bytes _ _ _, getItem_meets (typeIs_bytes _ _ _) (by decide) FB.slot_bytes_getitem FB.entry_bytes_getitem (FB.args_bytes_getitem_2 _ _) (KBc.meets_slice2 (byteArr l) t _ pl pu)
        ⟨Heap.IsSliceOf.new _ _ _ _, Nat.le_trans (KBc.size_picked_le _ lo hi) (by rw [byteArr_size, ← big_line]; exact hr.2.2), fun t' k => ?_⟩⟩
      have e := KBc.ints_picked hbi lo hi
      rw [cut_list _ l lo hi hr.1 hr.2.1] at e
      refine h _ _ ⟨_, k, rfl, fun _ _ e => Heap.get?_push_of_some _ e⟩ ?_
      unfold Rep
      refine ⟨fun n hn => ?_, t', ?_⟩
      · rw [← e] at hn
        exact KBw.ints_in hn
      · rw [← e, byteArr_bInts]
    · cases he
  · cases he
end
end Mine

namespace Mine
open PySem PySem.W PySem.Calls PyProof.Rows PySem.SeqAt

noncomputable def primVal : Prim → Value
  | .len => .builtin "len"
  | .chr => .builtin "chr"
  | .ord => .builtin "ord"
  | .str => .type "str"
  | .bytes => .type "bytes"
  | .list => .type "list"
  | .range => .type "range"
  | .max => .builtin "max"
noncomputable def primName : Prim → PySem.Str
  | .len => "len"
  | .chr => "chr"
  | .ord => "ord"
  | .str => "str"
  | .bytes => "bytes"
  | .list => "list"
  | .range => "range"
  | .max => "max"
theorem primBoot : ∀ p, bootBuiltins (primName p) = some (primVal p)
  | .len => by decide +kernel
  | .chr => by decide +kernel
  | .ord => by decide +kernel
  | .str => by decide +kernel
  | .bytes => by decide +kernel
  | .list => by decide +kernel
  | .range => by decide +kernel
  | .max => by decide +kernel

section
variable {prog : Program} {w : World} {A : Around} {E : Value → Shared → Prop} {s : Shared} {W : AddrSet} {Q : Value → Shared → Prop}

theorem repL_one {h : Heap} {d : D} {vs : List Value} (x : RepL W h [d] vs) : ∃ v, vs = [v] ∧ Rep W h d v := by
  obtain ⟨v, r, rfl, a, b⟩ := x.inv
  rw [b.invNil]
  exact ⟨v, rfl, a⟩
theorem repL_two {h : Heap} {d e : D} {vs : List Value} (x : RepL W h [d, e] vs) : ∃ v u, vs = [v, u] ∧ Rep W h d v ∧ Rep W h e u := by
  obtain ⟨v, r, rfl, a, b⟩ := x.inv
  obtain ⟨u, rfl, c⟩ := repL_one b
  exact ⟨v, u, rfl, a, c⟩
theorem repL_three {h : Heap} {d e f : D} {vs : List Value} (x : RepL W h [d, e, f] vs) : ∃ v u z, vs = [v, u, z] ∧ Rep W h d v ∧ Rep W h e u ∧ Rep W h f z := by
  obtain ⟨v, r, rfl, a, b⟩ := x.inv
  obtain ⟨u, z, rfl, c, d⟩ := repL_two b
  exact ⟨v, u, z, rfl, a, c, d⟩

theorem log2_small {a : Int} (h0 : 0 ≤ a) (h1 : a < 10000000000) : a.natAbs.log2 < 1920 := by
  by_cases hz : a.natAbs = 0
  · rw [hz]; decide
  · have : a.natAbs.log2 < 40 := (Nat.log2_lt hz).mpr (by omega)
    omega

theorem rangeOk_inv {a b c : Int} (h : rangeOk a b c = true) : Builtin.Range.small a b c = true ∧ Builtin.Range.rangeSize a b c = (rangeNum a b c : Int) ∧ rangeNum a b c ≤ big := by
  unfold rangeOk at h
  simp only [Bool.and_eq_true, decide_eq_true_eq] at h
  refine ⟨h.1.1, ?_, h.2⟩
  unfold rangeNum
  omega

theorem rep_rangeItems {h : Heap} {a c : Int} {n : Nat} {acc : Array Value} (hi : ItemsOf (fun i v => ∃ t, v = .int (a + i * c) t) acc n) :
    RepL W h (((List.range n).map fun i : Nat => a + (i : Int) * c).map D.int) acc.toList := by
  have key : IntsAre acc.toList ((List.range n).map fun i : Nat => a + (i : Int) * c) := by
    have hlen : acc.toList.length = n := by simpa using hi.1
    have : ∀ (l : List Value) (k m : Nat), l.length = m → (∀ (j : Nat) (v : Value), l[j]? = some v → ∃ t, v = Value.int (a + ((k + j : Nat) : Int) * c) t) → IntsAre l ((List.range m).map fun i : Nat => a + ((k + i : Nat) : Int) * c) := by
      intro l
      induction l with
      | nil => intro k m e _; simp at e; subst e; exact .nil
      | cons v l ih =>
        intro k m e hv
        obtain ⟨t, rfl⟩ := hv 0 v rfl
        cases m with
        | zero => simp at e
        | succ m =>
          rw [List.range_succ_eq_map, List.map_cons, List.map_map]
          refine .cons _ t ?_
          have := ih (k + 1) m (by simpa using e) (fun j v hj => by
            obtain ⟨t, e⟩ := hv (j + 1) v (by simpa using hj)
            exact ⟨t, by rw [e]; congr 3; omega⟩)
          have e2 : ((fun i : Nat => a + ((k + i : Nat) : Int) * c) ∘ Nat.succ) = fun i : Nat => a + ((k + 1 + i : Nat) : Int) * c := by
            funext i
            simp only [Function.comp]
            congr 3; omega
          rw [e2]
          exact this
    have := this acc.toList 0 n hlen (fun j v hj => by
      obtain ⟨t, e⟩ := hi.2 j v (by simpa using hj)
      exact ⟨t, by rw [e, Nat.zero_add]⟩)
    simpa using this
  exact RepL.ofInts key

theorem int_small {y : Int} (h : -1073741824 < y ∧ y < 1073741824) : y.natAbs < 1073741824 := by omega
noncomputable def ord1 (x : D) : Option D := match x with | .str l => (match l with | [c] => some (.int c) | _ => Option.none) | _ => Option.none
theorem ord_inv {x d : D} (h : ord1 x = some d) : ∃ c : Nat, x = .str [c] ∧ d = .int c := by
  cases x <;> try exact noneNot h
  rename_i l
  cases l with
  | nil => exact noneNot h
  | cons c t => cases t with
    | nil => exact ⟨c, rfl, (Option.some.inj h).symm⟩
    | cons _ _ => exact noneNot h

/-- one datum is asked for, two, three -/
noncomputable def d1 (f : D → Option D) (ds : List D) : Option D := match ds with | [x] => f x | _ => Option.none
noncomputable def d2 (f : D → D → Option D) (ds : List D) : Option D := match ds with | [x, y] => f x y | _ => Option.none
theorem d1_inv {f : D → Option D} {d : D} : ∀ {ds : List D}, d1 f ds = some d → ∃ x, ds = [x] ∧ f x = some d
  | [], h => noneNot h
  | [x], h => ⟨x, rfl, h⟩
  | _ :: _ :: _, h => noneNot h
theorem d2_inv {f : D → D → Option D} {d : D} : ∀ {ds : List D}, d2 f ds = some d → ∃ x y, ds = [x, y] ∧ f x y = some d
  | [], h => noneNot h
  | [_], h => noneNot h
  | [x, y], h => ⟨x, y, rfl, h⟩
  | _ :: _ :: _ :: _, h => noneNot h
noncomputable def int1 (f : Int → Option D) (x : D) : Option D := match x with | .int i => f i | _ => Option.none
theorem int1_inv {f : Int → Option D} {x d : D} (h : int1 f x = some d) : ∃ i, x = .int i ∧ f i = some d := by
  cases x <;> try exact noneNot h
  exact ⟨_, rfl, h⟩
theorem rep_int1 {h : Heap} {x : Int} {v : Value} (r : Rep W h (.int x) v) : ∃ t, v = .int x t := by unfold Rep at r; exact r

theorem len_ok {ds : List D} {d : D} {vs : List Value} (hr : RepL W s.heap ds vs) (he : evPrim .len ds = some d) (h : ∀ v s', Keeps s s' → Rep W s'.heap d v → Q v s') :
    wpAny (model prog w) A (call (.builtin "len") vs) Q E s := by
  obtain ⟨x, rfl, he⟩ := d1_inv he
  obtain ⟨v, rfl, ha⟩ := repL_one hr
  clear hr
  cases x <;> try exact noneNot he
  all_goals obtain ⟨hl, rfl⟩ := ifSome he; clear he; rw [big_val] at hl
  · unfold Rep at ha; obtain ⟨ra, t, rfl⟩ := ha
    exact KBw.len_K (KBa.ints_make ra) (Nat.le_trans hl (by decide)) (h _ _ (keeps_tok _) (rep_int _ _))
  · unfold Rep at ha; obtain ⟨a, vs, rfl, ha, pl, rl⟩ := ha
    have e := rl.len
    refine PyProof.Rows.len_list pl.isList (by rw [List.size_toArray, e]; omega) (h _ _ (keeps_tok _) ?_)
    rw [List.size_toArray, e]
    exact rep_int _ _

theorem bytes_ok {k : Nat} {ds : List D} {d : D} {vs : List Value} (hA : Room A k) (hr : RepL W s.heap ds vs) (he : evPrim .bytes ds = some d) (h : ∀ v s', Keeps s s' → Rep W s'.heap d v → Q v s') :
    wpAny (model prog w) A (call (.type "bytes") vs) Q E s := by
  obtain ⟨x, rfl, he⟩ := d1_inv he
  obtain ⟨v, rfl, ha⟩ := repL_one hr
  clear hr
  cases x <;> try exact noneNot he
  rename_i l he
  have he2 : (if l.length ≤ big then (match intsOf l with
        | some ns => if ns.all (fun n => decide (0 ≤ n) && decide (n < 256)) then some (D.bytes ns) else Option.none
        | Option.none => Option.none) else Option.none) = some d := he
  clear he
  by_cases hl : l.length ≤ big
  · rw [if_pos hl] at he2
    cases e1 : intsOf l with
    | none => rw [e1] at he2; exact noneNot he2
    | some ns =>
      rw [e1] at he2
      obtain ⟨hall, rfl⟩ := ifSome he2
      clear he2
      obtain rfl := intsOf_inv e1
      have hin : ∀ n ∈ ns, 0 ≤ n ∧ n < 256 := fun n hn => by
        have := List.all_eq_true.mp hall n hn
        rw [Bool.and_eq_true] at this
        exact ⟨of_decide_eq_true this.1, of_decide_eq_true this.2⟩
      unfold Rep at ha; obtain ⟨a, vs, rfl, ha, pl, rl⟩ := ha
      refine call_bytes_ints pl.isList rl.ints hin (by rw [rl.len, ← big_line]; exact hl) hA.hh fun h' t k hk => ?_
      refine h _ _ ⟨h', k, rfl, hk⟩ ?_
      unfold Rep
      exact ⟨hin, t, rfl⟩
  · rw [if_neg hl] at he2; exact noneNot he2

theorem list_ok {k : Nat} {ds : List D} {d : D} {vs : List Value} (hA : Room A k) (wok : WOk W s.heap) (hr : RepL W s.heap ds vs) (he : evPrim .list ds = some d) (h : ∀ v s', Keeps s s' → Rep W s'.heap d v → Q v s') :
    wpAny (model prog w) A (call (.type "list") vs) Q E s := by
  obtain ⟨x, rfl, he⟩ := d1_inv he
  obtain ⟨v, rfl, ha⟩ := repL_one hr
  clear hr
  cases x <;> try exact noneNot he
  obtain ⟨hl, rfl⟩ := ifSome he
  clear he
  unfold Rep at ha; obtain ⟨r, t, u, x, rfl, hr, ho⟩ := ha
  obtain ⟨h1, h2, h3⟩ := rangeOk_inv hl
  rw [big_val] at h3
  refine call_list_range hA.hh ho h1 h2 (Nat.le_trans h3 (by decide)) fun h' tk acc' c' hk ho' hi => ?_
  refine h _ _ ⟨h', tk, rfl, hk⟩ ?_
  unfold Rep
  exact ⟨_, acc'.toList, rfl, wok.fresh, ⟨c', by rw [Array.toArray_toList]; exact ho'⟩, rep_rangeItems hi⟩

theorem range_rep {h : Heap} (wok : WOk W h) (a b c : Int) {o : Obj} {t u x : Tok} (e : o = ⟨.type "range", none, .fields #[.int a t, .int b u, .int c x], #[]⟩) : Rep W (h.push o) (.range a b c) (.ref h.objs.size) := by
  subst e
  unfold Rep
  exact ⟨_, _, _, _, rfl, wok.fresh, Heap.get?_push_size _ rfl⟩

theorem range_ok {ds : List D} {d : D} {vs : List Value} (wok : WOk W s.heap) (hr : RepL W s.heap ds vs) (he : evPrim .range ds = some d) (h : ∀ v s', Keeps s s' → Rep W s'.heap d v → Q v s') :
    wpAny (model prog w) A (call (.type "range") vs) Q E s := by
  cases ds with
  | nil => exact noneNot he
  | cons x ds =>
  cases ds with
  | nil =>
    obtain ⟨v, rfl, ha⟩ := repL_one hr
    obtain ⟨b, rfl, he⟩ := int1_inv he
    obtain ⟨t, rfl⟩ := rep_int1 ha
    cases he
    exact call_range_1 (h _ _ (keeps_push _ _) (range_rep wok _ _ _ rfl))
  | cons y ds =>
  cases ds with
  | nil =>
    obtain ⟨v, v', rfl, ha, hb⟩ := repL_two hr
    obtain ⟨a, b, rfl, rfl, he⟩ := int2_inv he
    obtain ⟨t, u, rfl, rfl⟩ := rep_ints ha hb
    cases he
    exact call_range_2 (h _ _ (keeps_push _ _) (range_rep wok _ _ _ rfl))
  | cons z ds =>
  cases ds with
  | cons _ _ => exact noneNot he
  | nil =>
    obtain ⟨v, v', v'', rfl, ha, hb, hc⟩ := repL_three hr
    obtain ⟨a, b, rfl, rfl, he⟩ := int2_inv he
    obtain ⟨c, rfl, he⟩ := int1_inv he
    obtain ⟨t, u, rfl, rfl⟩ := rep_ints ha hb
    obtain ⟨x, rfl⟩ := rep_int1 hc
    obtain ⟨hn, rfl⟩ := ifSome he
    exact call_range_3 hn.1 (h _ _ (keeps_push _ _) (range_rep wok _ _ _ rfl)) (.inl (PyProof.noPylong_small (int_small hn.2)))

theorem prim_ok {k : Nat} {p : Prim} {ds : List D} {d : D} {vs : List Value} (hA : Room A k) (wok : WOk W s.heap) (hr : RepL W s.heap ds vs)
    (he : evPrim p ds = some d) (h : ∀ v s', Keeps s s' → Rep W s'.heap d v → Q v s') : wpAny (model prog w) A (call (primVal p) vs) Q E s := by
  cases p with
  | len => exact len_ok hr he h
  | bytes => exact bytes_ok hA hr he h
  | list => exact list_ok hA wok hr he h
  | range => exact range_ok wok hr he h
  | chr =>
    obtain ⟨x, rfl, he⟩ := d1_inv he
    obtain ⟨v, rfl, ha⟩ := repL_one hr
    obtain ⟨i, rfl, he⟩ := int1_inv he
    obtain ⟨t, rfl⟩ := rep_int1 ha
    obtain ⟨hl, rfl⟩ := ifSome he
    exact chr_of_range hl.1 hl.2 (h _ _ (keeps_tok _) (rep_str _ _))
  | str =>
    obtain ⟨x, rfl, he⟩ := d1_inv he
    obtain ⟨v, rfl, ha⟩ := repL_one hr
    obtain ⟨i, rfl, he⟩ := int1_inv he
    obtain ⟨t, rfl⟩ := rep_int1 ha
    obtain ⟨hl, rfl⟩ := ifSome he
    exact P.str_of_int (log2_small hl.1 hl.2) (h _ _ (keeps_tok _) (rep_str' _ _))
  | ord =>
    obtain ⟨x, rfl, he⟩ := d1_inv he
    obtain ⟨v, rfl, ha⟩ := repL_one hr
    obtain ⟨c, rfl, he⟩ := ord_inv he
    cases he
    unfold Rep at ha; obtain ⟨t, rfl⟩ := ha
    exact P.ord_of_char (h _ _ (keeps_tok _) (rep_int _ _))
  | max =>
    obtain ⟨x, y, rfl, he⟩ := d2_inv he
    obtain ⟨v, v', rfl, ha, hb⟩ := repL_two hr
    obtain ⟨a, b, rfl, rfl, he⟩ := int2_inv he
    obtain ⟨t, u, rfl, rfl⟩ := rep_ints ha hb
    cases he
    refine max_two_ints hA.hh fun h' tk hk => ?_
    refine h _ _ ⟨h', tk, rfl, hk⟩ ?_
    by_cases q : b > a
    · rw [if_pos q, if_pos q]; exact rep_int _ _
    · rw [if_neg q, if_neg q]; exact rep_int _ _

theorem sum_map_len (xs : List (List Nat)) : ((xs.map fun l => (⟨l.toArray⟩ : PySem.Str)).map (·.length)).sum = xs.flatten.length := by
  induction xs with
  | nil => rfl
  | cons x xs ih =>
    simp only [List.map_cons, List.sum_cons, List.flatten_cons, List.length_append, ih]
    rfl
theorem foldl_empty_glue : ∀ (xs : List (List Nat)) (acc : List Nat), (xs.map fun l => (⟨l.toArray⟩ : PySem.Str)).foldl (fun (acc : Array Nat) x => acc ++ (#[] : Array Nat) ++ x.cps) acc.toArray = (acc ++ xs.flatten).toArray
  | [], acc => by simp
  | x :: r, acc => by
    simp only [List.map_cons, List.foldl_cons, List.flatten_cons]
    have e : (acc.toArray ++ (#[] : Array Nat) ++ x.toArray) = (acc ++ x).toArray := by simp
    rw [e, foldl_empty_glue r (acc ++ x), List.append_assoc]
theorem join_empty (xs : List (List Nat)) : Txt.join ⟨#[]⟩ (xs.map fun l => (⟨l.toArray⟩ : PySem.Str)) = ⟨xs.flatten.toArray⟩ := by
  unfold Txt.join Builtin.Str.glued
  cases xs with
  | nil => rfl
  | cons x r =>
    have := foldl_empty_glue r x
    simp_all

theorem join_ok {b d : D} {vb : Value} {t : Tok} (hb : Rep W s.heap b vb)
    (he : evJoin b = some d) (h : ∀ v s', Keeps s s' → Rep W s'.heap d v → Q v s') : wpAny (model prog w) A (call (.builtin "str.join") [.str ⟨#[]⟩ t, vb]) Q E s := by
  unfold evJoin at he
  split at he
  · split at he
    · rename_i hl
      split at he
      · rename_i xs e1
        split at he
        · rename_i hf
          cases he
          have q1 := strsOf_inv e1
          subst q1
          unfold Rep at hb; obtain ⟨m, ws, rfl, hm, pm, rm⟩ := hb
          refine join_list pm.isList rm.strs (by rw [sum_map_len]; rw [big_val] at hf; show _ + _ * 0 ≤ _; omega) fun t' k => ?_
          have e : Txt.join (⟨([] : List Nat).toArray⟩ : PySem.Str) (xs.map fun l => (⟨l.toArray⟩ : PySem.Str)) = ⟨xs.flatten.toArray⟩ := join_empty xs
          rw [e]
          exact h _ _ (keeps_tok _) (rep_str _ _)
        · cases he
      · cases he
    · cases he
  · cases he

theorem index_ok {a b d : D} {va vb : Value} (ha : Rep W s.heap a va) (hb : Rep W s.heap b vb)
    (he : evIndex a b = some d) (h : ∀ v s', Keeps s s' → Rep W s'.heap d v → Q v s') : wpAny (model prog w) A (call (.builtin "list.index") [va, vb]) Q E s := by
  unfold evIndex at he
  split at he
  · split at he
    · rename_i hl
      split at he
      · rename_i ns e1
        split at he
        · rename_i hk
          cases he
          have q1 := intsOf_inv e1
          subst q1
          unfold Rep at ha hb; obtain ⟨m, ws, rfl, hm, pm, rm⟩ := ha; obtain ⟨t, rfl⟩ := hb
          have hi := rm.ints
          obtain ⟨n, ho⟩ := pm
          rename_i k _
          have hlen := hi.length
          have hj : ns.idxOf k < ns.length := List.idxOf_lt_length_iff.mpr hk
          rw [big_val, List.length_map] at hl
          refine call_meets PySem.F.slot_list_index ⟨_, ho, rfl⟩ PySem.F.entry_list_index (PySem.F.args_list_index_2 _ _)
            (list_indexAt m ws.toArray n none #[] (.int k t) (isInt k) (ns.idxOf k) (by simpa [hlen] using hj) (by omega) ?_ ?_) ⟨ho, fun y hy => (eq_isInt k t hi y (by simpa using hy)).at _ _, h _ _ (keeps_tok _) (rep_int _ _)⟩
          · show isInt k ws[ns.idxOf k] = true
            rw [isInt_at k hi _ (by omega) hj]
            simpa using List.getElem_idxOf hj
          · intro j hjs hlt
            show isInt k ws[j] = false
            rw [isInt_at k hi j (by simpa using hjs) (by omega)]
            exact ne_of_lt_idxOf hlt _
        · cases he
      · cases he
    · cases he
  · cases he
end
end Mine

namespace Mine
open PySem PySem.W PySem.Calls PyProof.Rows PySem.SeqAt

noncomputable def debugS : PySem.Str := "__debug__"
noncomputable def relabelS (scope outer : Scope) : Scope :=
  { scope with names := scope.names.map fun (n, k) => if (k == .free && outer.kind == .function && outer.names.lookup n == some .cell) then (n, .cell) else (n, k) }
noncomputable def scOk (sc : Scope) (outer : Scope) (y : PySem.Str) : Bool :=
  sc.kind == .function && sc.names.all (fun x => x.2 != .cell) && sc.names.all (fun x => x.2 != .local || sc.names.lookup x.1 == some .local) &&
  sc.names.all (fun x => x.2 != .free || outer.names.lookup x.1 == some .cell) && sc.names.lookup y == some .local
/-! views: onF e f asks f of what e holds, where e is of form F (printed by wip/gen/views.py) -/
noncomputable def onCon (e : Expr) (f : Const → Nat → Pos → Bool) : Bool := if h : e.ctorIdx = 19 then Expr.Constant.elim (motive_1 := fun _ => Bool) e h f else false
@[elab_as_elim] theorem onCon_elim {P : Expr → Prop} {e : Expr} {f : Const → Nat → Pos → Bool} (h : onCon e f = true) (k : ∀ x0 x1 x2, f x0 x1 x2 = true → P (.Constant x0 x1 x2)) : P e :=
  if q : e.ctorIdx = 19 then Expr.Constant.elim (motive_1 := fun e => onCon e f = true → P e) e q k h else falseNot ((dif_neg q).symm.trans h)
theorem onCon_inv {e : Expr} {f : Const → Nat → Pos → Bool} (h : onCon e f = true) : ∃ x0 x1 x2, e = .Constant x0 x1 x2 ∧ f x0 x1 x2 = true := onCon_elim (P := fun e => ∃ x0 x1 x2, e = .Constant x0 x1 x2 ∧ f x0 x1 x2 = true) h fun x0 x1 x2 q => ⟨x0, x1, x2, rfl, q⟩
noncomputable def onUn (e : Expr) (f : UnaryOp → Expr → Pos → Bool) : Bool := if h : e.ctorIdx = 3 then Expr.UnaryOp.elim (motive_1 := fun _ => Bool) e h f else false
@[elab_as_elim] theorem onUn_elim {P : Expr → Prop} {e : Expr} {f : UnaryOp → Expr → Pos → Bool} (h : onUn e f = true) (k : ∀ x0 x1 x2, f x0 x1 x2 = true → P (.UnaryOp x0 x1 x2)) : P e :=
  if q : e.ctorIdx = 3 then Expr.UnaryOp.elim (motive_1 := fun e => onUn e f = true → P e) e q k h else falseNot ((dif_neg q).symm.trans h)
theorem onUn_inv {e : Expr} {f : UnaryOp → Expr → Pos → Bool} (h : onUn e f = true) : ∃ x0 x1 x2, e = .UnaryOp x0 x1 x2 ∧ f x0 x1 x2 = true := onUn_elim (P := fun e => ∃ x0 x1 x2, e = .UnaryOp x0 x1 x2 ∧ f x0 x1 x2 = true) h fun x0 x1 x2 q => ⟨x0, x1, x2, rfl, q⟩
noncomputable def onName (e : Expr) (f : PySem.Str → Pos → Bool) : Bool := if h : e.ctorIdx = 23 then Expr.Name.elim (motive_1 := fun _ => Bool) e h f else false
@[elab_as_elim] theorem onName_elim {P : Expr → Prop} {e : Expr} {f : PySem.Str → Pos → Bool} (h : onName e f = true) (k : ∀ x0 x1, f x0 x1 = true → P (.Name x0 x1)) : P e :=
  if q : e.ctorIdx = 23 then Expr.Name.elim (motive_1 := fun e => onName e f = true → P e) e q k h else falseNot ((dif_neg q).symm.trans h)
theorem onName_inv {e : Expr} {f : PySem.Str → Pos → Bool} (h : onName e f = true) : ∃ x0 x1, e = .Name x0 x1 ∧ f x0 x1 = true := onName_elim (P := fun e => ∃ x0 x1, e = .Name x0 x1 ∧ f x0 x1 = true) h fun x0 x1 q => ⟨x0, x1, rfl, q⟩
noncomputable def onBin (e : Expr) (f : Expr → Operator → Expr → Pos → Bool) : Bool := if h : e.ctorIdx = 2 then Expr.BinOp.elim (motive_1 := fun _ => Bool) e h f else false
@[elab_as_elim] theorem onBin_elim {P : Expr → Prop} {e : Expr} {f : Expr → Operator → Expr → Pos → Bool} (h : onBin e f = true) (k : ∀ x0 x1 x2 x3, f x0 x1 x2 x3 = true → P (.BinOp x0 x1 x2 x3)) : P e :=
  if q : e.ctorIdx = 2 then Expr.BinOp.elim (motive_1 := fun e => onBin e f = true → P e) e q k h else falseNot ((dif_neg q).symm.trans h)
theorem onBin_inv {e : Expr} {f : Expr → Operator → Expr → Pos → Bool} (h : onBin e f = true) : ∃ x0 x1 x2 x3, e = .BinOp x0 x1 x2 x3 ∧ f x0 x1 x2 x3 = true := onBin_elim (P := fun e => ∃ x0 x1 x2 x3, e = .BinOp x0 x1 x2 x3 ∧ f x0 x1 x2 x3 = true) h fun x0 x1 x2 x3 q => ⟨x0, x1, x2, x3, rfl, q⟩
noncomputable def onCmp (e : Expr) (f : Expr → List CmpOp → List Expr → Pos → Bool) : Bool := if h : e.ctorIdx = 15 then Expr.Compare.elim (motive_1 := fun _ => Bool) e h f else false
@[elab_as_elim] theorem onCmp_elim {P : Expr → Prop} {e : Expr} {f : Expr → List CmpOp → List Expr → Pos → Bool} (h : onCmp e f = true) (k : ∀ x0 x1 x2 x3, f x0 x1 x2 x3 = true → P (.Compare x0 x1 x2 x3)) : P e :=
  if q : e.ctorIdx = 15 then Expr.Compare.elim (motive_1 := fun e => onCmp e f = true → P e) e q k h else falseNot ((dif_neg q).symm.trans h)
theorem onCmp_inv {e : Expr} {f : Expr → List CmpOp → List Expr → Pos → Bool} (h : onCmp e f = true) : ∃ x0 x1 x2 x3, e = .Compare x0 x1 x2 x3 ∧ f x0 x1 x2 x3 = true := onCmp_elim (P := fun e => ∃ x0 x1 x2 x3, e = .Compare x0 x1 x2 x3 ∧ f x0 x1 x2 x3 = true) h fun x0 x1 x2 x3 q => ⟨x0, x1, x2, x3, rfl, q⟩
noncomputable def onBool (e : Expr) (f : BoolOp → List Expr → Pos → Bool) : Bool := if h : e.ctorIdx = 0 then Expr.BoolOp.elim (motive_1 := fun _ => Bool) e h f else false
@[elab_as_elim] theorem onBool_elim {P : Expr → Prop} {e : Expr} {f : BoolOp → List Expr → Pos → Bool} (h : onBool e f = true) (k : ∀ x0 x1 x2, f x0 x1 x2 = true → P (.BoolOp x0 x1 x2)) : P e :=
  if q : e.ctorIdx = 0 then Expr.BoolOp.elim (motive_1 := fun e => onBool e f = true → P e) e q k h else falseNot ((dif_neg q).symm.trans h)
theorem onBool_inv {e : Expr} {f : BoolOp → List Expr → Pos → Bool} (h : onBool e f = true) : ∃ x0 x1 x2, e = .BoolOp x0 x1 x2 ∧ f x0 x1 x2 = true := onBool_elim (P := fun e => ∃ x0 x1 x2, e = .BoolOp x0 x1 x2 ∧ f x0 x1 x2 = true) h fun x0 x1 x2 q => ⟨x0, x1, x2, rfl, q⟩
noncomputable def onIf (e : Expr) (f : Expr → Expr → Expr → Pos → Bool) : Bool := if h : e.ctorIdx = 5 then Expr.IfExp.elim (motive_1 := fun _ => Bool) e h f else false
@[elab_as_elim] theorem onIf_elim {P : Expr → Prop} {e : Expr} {f : Expr → Expr → Expr → Pos → Bool} (h : onIf e f = true) (k : ∀ x0 x1 x2 x3, f x0 x1 x2 x3 = true → P (.IfExp x0 x1 x2 x3)) : P e :=
  if q : e.ctorIdx = 5 then Expr.IfExp.elim (motive_1 := fun e => onIf e f = true → P e) e q k h else falseNot ((dif_neg q).symm.trans h)
theorem onIf_inv {e : Expr} {f : Expr → Expr → Expr → Pos → Bool} (h : onIf e f = true) : ∃ x0 x1 x2 x3, e = .IfExp x0 x1 x2 x3 ∧ f x0 x1 x2 x3 = true := onIf_elim (P := fun e => ∃ x0 x1 x2 x3, e = .IfExp x0 x1 x2 x3 ∧ f x0 x1 x2 x3 = true) h fun x0 x1 x2 x3 q => ⟨x0, x1, x2, x3, rfl, q⟩
noncomputable def onSub (e : Expr) (f : Expr → Expr → Pos → Bool) : Bool := if h : e.ctorIdx = 21 then Expr.Subscript.elim (motive_1 := fun _ => Bool) e h f else false
@[elab_as_elim] theorem onSub_elim {P : Expr → Prop} {e : Expr} {f : Expr → Expr → Pos → Bool} (h : onSub e f = true) (k : ∀ x0 x1 x2, f x0 x1 x2 = true → P (.Subscript x0 x1 x2)) : P e :=
  if q : e.ctorIdx = 21 then Expr.Subscript.elim (motive_1 := fun e => onSub e f = true → P e) e q k h else falseNot ((dif_neg q).symm.trans h)
theorem onSub_inv {e : Expr} {f : Expr → Expr → Pos → Bool} (h : onSub e f = true) : ∃ x0 x1 x2, e = .Subscript x0 x1 x2 ∧ f x0 x1 x2 = true := onSub_elim (P := fun e => ∃ x0 x1 x2, e = .Subscript x0 x1 x2 ∧ f x0 x1 x2 = true) h fun x0 x1 x2 q => ⟨x0, x1, x2, rfl, q⟩
noncomputable def onSlc (e : Expr) (f : Option Expr → Option Expr → Option Expr → Pos → Bool) : Bool := if h : e.ctorIdx = 26 then Expr.Slice.elim (motive_1 := fun _ => Bool) e h f else false
@[elab_as_elim] theorem onSlc_elim {P : Expr → Prop} {e : Expr} {f : Option Expr → Option Expr → Option Expr → Pos → Bool} (h : onSlc e f = true) (k : ∀ x0 x1 x2 x3, f x0 x1 x2 x3 = true → P (.Slice x0 x1 x2 x3)) : P e :=
  if q : e.ctorIdx = 26 then Expr.Slice.elim (motive_1 := fun e => onSlc e f = true → P e) e q k h else falseNot ((dif_neg q).symm.trans h)
theorem onSlc_inv {e : Expr} {f : Option Expr → Option Expr → Option Expr → Pos → Bool} (h : onSlc e f = true) : ∃ x0 x1 x2 x3, e = .Slice x0 x1 x2 x3 ∧ f x0 x1 x2 x3 = true := onSlc_elim (P := fun e => ∃ x0 x1 x2 x3, e = .Slice x0 x1 x2 x3 ∧ f x0 x1 x2 x3 = true) h fun x0 x1 x2 x3 q => ⟨x0, x1, x2, x3, rfl, q⟩
noncomputable def onTup (e : Expr) (f : List Expr → Nat → Pos → Bool) : Bool := if h : e.ctorIdx = 25 then Expr.Tuple.elim (motive_1 := fun _ => Bool) e h f else false
@[elab_as_elim] theorem onTup_elim {P : Expr → Prop} {e : Expr} {f : List Expr → Nat → Pos → Bool} (h : onTup e f = true) (k : ∀ x0 x1 x2, f x0 x1 x2 = true → P (.Tuple x0 x1 x2)) : P e :=
  if q : e.ctorIdx = 25 then Expr.Tuple.elim (motive_1 := fun e => onTup e f = true → P e) e q k h else falseNot ((dif_neg q).symm.trans h)
theorem onTup_inv {e : Expr} {f : List Expr → Nat → Pos → Bool} (h : onTup e f = true) : ∃ x0 x1 x2, e = .Tuple x0 x1 x2 ∧ f x0 x1 x2 = true := onTup_elim (P := fun e => ∃ x0 x1 x2, e = .Tuple x0 x1 x2 ∧ f x0 x1 x2 = true) h fun x0 x1 x2 q => ⟨x0, x1, x2, rfl, q⟩
noncomputable def onLst (e : Expr) (f : List Expr → Pos → Bool) : Bool := if h : e.ctorIdx = 24 then Expr.List.elim (motive_1 := fun _ => Bool) e h f else false
@[elab_as_elim] theorem onLst_elim {P : Expr → Prop} {e : Expr} {f : List Expr → Pos → Bool} (h : onLst e f = true) (k : ∀ x0 x1, f x0 x1 = true → P (.List x0 x1)) : P e :=
  if q : e.ctorIdx = 24 then Expr.List.elim (motive_1 := fun e => onLst e f = true → P e) e q k h else falseNot ((dif_neg q).symm.trans h)
theorem onLst_inv {e : Expr} {f : List Expr → Pos → Bool} (h : onLst e f = true) : ∃ x0 x1, e = .List x0 x1 ∧ f x0 x1 = true := onLst_elim (P := fun e => ∃ x0 x1, e = .List x0 x1 ∧ f x0 x1 = true) h fun x0 x1 q => ⟨x0, x1, rfl, q⟩
noncomputable def onCall (e : Expr) (f : Expr → List Expr → List Keyword → Pos → Bool) : Bool := if h : e.ctorIdx = 16 then Expr.Call.elim (motive_1 := fun _ => Bool) e h f else false
@[elab_as_elim] theorem onCall_elim {P : Expr → Prop} {e : Expr} {f : Expr → List Expr → List Keyword → Pos → Bool} (h : onCall e f = true) (k : ∀ x0 x1 x2 x3, f x0 x1 x2 x3 = true → P (.Call x0 x1 x2 x3)) : P e :=
  if q : e.ctorIdx = 16 then Expr.Call.elim (motive_1 := fun e => onCall e f = true → P e) e q k h else falseNot ((dif_neg q).symm.trans h)
theorem onCall_inv {e : Expr} {f : Expr → List Expr → List Keyword → Pos → Bool} (h : onCall e f = true) : ∃ x0 x1 x2 x3, e = .Call x0 x1 x2 x3 ∧ f x0 x1 x2 x3 = true := onCall_elim (P := fun e => ∃ x0 x1 x2 x3, e = .Call x0 x1 x2 x3 ∧ f x0 x1 x2 x3 = true) h fun x0 x1 x2 x3 q => ⟨x0, x1, x2, x3, rfl, q⟩
noncomputable def onAttr (e : Expr) (f : Expr → PySem.Str → Pos → Bool) : Bool := if h : e.ctorIdx = 20 then Expr.Attribute.elim (motive_1 := fun _ => Bool) e h f else false
@[elab_as_elim] theorem onAttr_elim {P : Expr → Prop} {e : Expr} {f : Expr → PySem.Str → Pos → Bool} (h : onAttr e f = true) (k : ∀ x0 x1 x2, f x0 x1 x2 = true → P (.Attribute x0 x1 x2)) : P e :=
  if q : e.ctorIdx = 20 then Expr.Attribute.elim (motive_1 := fun e => onAttr e f = true → P e) e q k h else falseNot ((dif_neg q).symm.trans h)
theorem onAttr_inv {e : Expr} {f : Expr → PySem.Str → Pos → Bool} (h : onAttr e f = true) : ∃ x0 x1 x2, e = .Attribute x0 x1 x2 ∧ f x0 x1 x2 = true := onAttr_elim (P := fun e => ∃ x0 x1 x2, e = .Attribute x0 x1 x2 ∧ f x0 x1 x2 = true) h fun x0 x1 x2 q => ⟨x0, x1, x2, rfl, q⟩
noncomputable def onComp (e : Expr) (f : Expr → List Comprehension → Scope → Pos → Bool) : Bool := if h : e.ctorIdx = 8 then Expr.ListComp.elim (motive_1 := fun _ => Bool) e h f else false
@[elab_as_elim] theorem onComp_elim {P : Expr → Prop} {e : Expr} {f : Expr → List Comprehension → Scope → Pos → Bool} (h : onComp e f = true) (k : ∀ x0 x1 x2 x3, f x0 x1 x2 x3 = true → P (.ListComp x0 x1 x2 x3)) : P e :=
  if q : e.ctorIdx = 8 then Expr.ListComp.elim (motive_1 := fun e => onComp e f = true → P e) e q k h else falseNot ((dif_neg q).symm.trans h)
theorem onComp_inv {e : Expr} {f : Expr → List Comprehension → Scope → Pos → Bool} (h : onComp e f = true) : ∃ x0 x1 x2 x3, e = .ListComp x0 x1 x2 x3 ∧ f x0 x1 x2 x3 = true := onComp_elim (P := fun e => ∃ x0 x1 x2 x3, e = .ListComp x0 x1 x2 x3 ∧ f x0 x1 x2 x3 = true) h fun x0 x1 x2 x3 q => ⟨x0, x1, x2, x3, rfl, q⟩
noncomputable def onStr (e : Const) (f : PySem.Str → Bool) : Bool := if h : e.ctorIdx = 5 then Const.str.elim (motive := fun _ => Bool) e h f else false
@[elab_as_elim] theorem onStr_elim {P : Const → Prop} {e : Const} {f : PySem.Str → Bool} (h : onStr e f = true) (k : ∀ x0, f x0 = true → P (.str x0)) : P e :=
  if q : e.ctorIdx = 5 then Const.str.elim (motive := fun e => onStr e f = true → P e) e q k h else falseNot ((dif_neg q).symm.trans h)
theorem onStr_inv {e : Const} {f : PySem.Str → Bool} (h : onStr e f = true) : ∃ x0, e = .str x0 ∧ f x0 = true := onStr_elim (P := fun e => ∃ x0, e = .str x0 ∧ f x0 = true) h fun x0 q => ⟨x0, rfl, q⟩
noncomputable def onBytes (e : Const) (f : List UInt8 → Bool) : Bool := if h : e.ctorIdx = 6 then Const.bytes.elim (motive := fun _ => Bool) e h f else false
@[elab_as_elim] theorem onBytes_elim {P : Const → Prop} {e : Const} {f : List UInt8 → Bool} (h : onBytes e f = true) (k : ∀ x0, f x0 = true → P (.bytes x0)) : P e :=
  if q : e.ctorIdx = 6 then Const.bytes.elim (motive := fun e => onBytes e f = true → P e) e q k h else falseNot ((dif_neg q).symm.trans h)
theorem onBytes_inv {e : Const} {f : List UInt8 → Bool} (h : onBytes e f = true) : ∃ x0, e = .bytes x0 ∧ f x0 = true := onBytes_elim (P := fun e => ∃ x0, e = .bytes x0 ∧ f x0 = true) h fun x0 q => ⟨x0, rfl, q⟩
noncomputable def onSAssign (e : Stmt) (f : List Expr → Expr → Pos → Bool) : Bool := if h : e.ctorIdx = 5 then Stmt.Assign.elim (motive_2 := fun _ => Bool) e h f else false
@[elab_as_elim] theorem onSAssign_elim {P : Stmt → Prop} {e : Stmt} {f : List Expr → Expr → Pos → Bool} (h : onSAssign e f = true) (k : ∀ x0 x1 x2, f x0 x1 x2 = true → P (.Assign x0 x1 x2)) : P e :=
  if q : e.ctorIdx = 5 then Stmt.Assign.elim (motive_2 := fun e => onSAssign e f = true → P e) e q k h else falseNot ((dif_neg q).symm.trans h)
theorem onSAssign_inv {e : Stmt} {f : List Expr → Expr → Pos → Bool} (h : onSAssign e f = true) : ∃ x0 x1 x2, e = .Assign x0 x1 x2 ∧ f x0 x1 x2 = true := onSAssign_elim (P := fun e => ∃ x0 x1 x2, e = .Assign x0 x1 x2 ∧ f x0 x1 x2 = true) h fun x0 x1 x2 q => ⟨x0, x1, x2, rfl, q⟩
noncomputable def onSAug (e : Stmt) (f : Expr → Operator → Expr → Pos → Bool) : Bool := if h : e.ctorIdx = 7 then Stmt.AugAssign.elim (motive_2 := fun _ => Bool) e h f else false
@[elab_as_elim] theorem onSAug_elim {P : Stmt → Prop} {e : Stmt} {f : Expr → Operator → Expr → Pos → Bool} (h : onSAug e f = true) (k : ∀ x0 x1 x2 x3, f x0 x1 x2 x3 = true → P (.AugAssign x0 x1 x2 x3)) : P e :=
  if q : e.ctorIdx = 7 then Stmt.AugAssign.elim (motive_2 := fun e => onSAug e f = true → P e) e q k h else falseNot ((dif_neg q).symm.trans h)
theorem onSAug_inv {e : Stmt} {f : Expr → Operator → Expr → Pos → Bool} (h : onSAug e f = true) : ∃ x0 x1 x2 x3, e = .AugAssign x0 x1 x2 x3 ∧ f x0 x1 x2 x3 = true := onSAug_elim (P := fun e => ∃ x0 x1 x2 x3, e = .AugAssign x0 x1 x2 x3 ∧ f x0 x1 x2 x3 = true) h fun x0 x1 x2 x3 q => ⟨x0, x1, x2, x3, rfl, q⟩
noncomputable def onSExpr (e : Stmt) (f : Expr → Pos → Bool) : Bool := if h : e.ctorIdx = 24 then Stmt.Expr.elim (motive_2 := fun _ => Bool) e h f else false
@[elab_as_elim] theorem onSExpr_elim {P : Stmt → Prop} {e : Stmt} {f : Expr → Pos → Bool} (h : onSExpr e f = true) (k : ∀ x0 x1, f x0 x1 = true → P (.Expr x0 x1)) : P e :=
  if q : e.ctorIdx = 24 then Stmt.Expr.elim (motive_2 := fun e => onSExpr e f = true → P e) e q k h else falseNot ((dif_neg q).symm.trans h)
theorem onSExpr_inv {e : Stmt} {f : Expr → Pos → Bool} (h : onSExpr e f = true) : ∃ x0 x1, e = .Expr x0 x1 ∧ f x0 x1 = true := onSExpr_elim (P := fun e => ∃ x0 x1, e = .Expr x0 x1 ∧ f x0 x1 = true) h fun x0 x1 q => ⟨x0, x1, rfl, q⟩
noncomputable def onSFor (e : Stmt) (f : Expr → Expr → List Stmt → List Stmt → Pos → Bool) : Bool := if h : e.ctorIdx = 9 then Stmt.For.elim (motive_2 := fun _ => Bool) e h f else false
@[elab_as_elim] theorem onSFor_elim {P : Stmt → Prop} {e : Stmt} {f : Expr → Expr → List Stmt → List Stmt → Pos → Bool} (h : onSFor e f = true) (k : ∀ x0 x1 x2 x3 x4, f x0 x1 x2 x3 x4 = true → P (.For x0 x1 x2 x3 x4)) : P e :=
  if q : e.ctorIdx = 9 then Stmt.For.elim (motive_2 := fun e => onSFor e f = true → P e) e q k h else falseNot ((dif_neg q).symm.trans h)
theorem onSFor_inv {e : Stmt} {f : Expr → Expr → List Stmt → List Stmt → Pos → Bool} (h : onSFor e f = true) : ∃ x0 x1 x2 x3 x4, e = .For x0 x1 x2 x3 x4 ∧ f x0 x1 x2 x3 x4 = true := onSFor_elim (P := fun e => ∃ x0 x1 x2 x3 x4, e = .For x0 x1 x2 x3 x4 ∧ f x0 x1 x2 x3 x4 = true) h fun x0 x1 x2 x3 x4 q => ⟨x0, x1, x2, x3, x4, rfl, q⟩
noncomputable def onSWhile (e : Stmt) (f : Expr → List Stmt → List Stmt → Pos → Bool) : Bool := if h : e.ctorIdx = 11 then Stmt.While.elim (motive_2 := fun _ => Bool) e h f else false
@[elab_as_elim] theorem onSWhile_elim {P : Stmt → Prop} {e : Stmt} {f : Expr → List Stmt → List Stmt → Pos → Bool} (h : onSWhile e f = true) (k : ∀ x0 x1 x2 x3, f x0 x1 x2 x3 = true → P (.While x0 x1 x2 x3)) : P e :=
  if q : e.ctorIdx = 11 then Stmt.While.elim (motive_2 := fun e => onSWhile e f = true → P e) e q k h else falseNot ((dif_neg q).symm.trans h)
theorem onSWhile_inv {e : Stmt} {f : Expr → List Stmt → List Stmt → Pos → Bool} (h : onSWhile e f = true) : ∃ x0 x1 x2 x3, e = .While x0 x1 x2 x3 ∧ f x0 x1 x2 x3 = true := onSWhile_elim (P := fun e => ∃ x0 x1 x2 x3, e = .While x0 x1 x2 x3 ∧ f x0 x1 x2 x3 = true) h fun x0 x1 x2 x3 q => ⟨x0, x1, x2, x3, rfl, q⟩
noncomputable def onSIf (e : Stmt) (f : Expr → List Stmt → List Stmt → Pos → Bool) : Bool := if h : e.ctorIdx = 12 then Stmt.If.elim (motive_2 := fun _ => Bool) e h f else false
@[elab_as_elim] theorem onSIf_elim {P : Stmt → Prop} {e : Stmt} {f : Expr → List Stmt → List Stmt → Pos → Bool} (h : onSIf e f = true) (k : ∀ x0 x1 x2 x3, f x0 x1 x2 x3 = true → P (.If x0 x1 x2 x3)) : P e :=
  if q : e.ctorIdx = 12 then Stmt.If.elim (motive_2 := fun e => onSIf e f = true → P e) e q k h else falseNot ((dif_neg q).symm.trans h)
theorem onSIf_inv {e : Stmt} {f : Expr → List Stmt → List Stmt → Pos → Bool} (h : onSIf e f = true) : ∃ x0 x1 x2 x3, e = .If x0 x1 x2 x3 ∧ f x0 x1 x2 x3 = true := onSIf_elim (P := fun e => ∃ x0 x1 x2 x3, e = .If x0 x1 x2 x3 ∧ f x0 x1 x2 x3 = true) h fun x0 x1 x2 x3 q => ⟨x0, x1, x2, x3, rfl, q⟩
noncomputable def onSRet (e : Stmt) (f : Option Expr → Pos → Bool) : Bool := if h : e.ctorIdx = 3 then Stmt.Return.elim (motive_2 := fun _ => Bool) e h f else false
@[elab_as_elim] theorem onSRet_elim {P : Stmt → Prop} {e : Stmt} {f : Option Expr → Pos → Bool} (h : onSRet e f = true) (k : ∀ x0 x1, f x0 x1 = true → P (.Return x0 x1)) : P e :=
  if q : e.ctorIdx = 3 then Stmt.Return.elim (motive_2 := fun e => onSRet e f = true → P e) e q k h else falseNot ((dif_neg q).symm.trans h)
theorem onSRet_inv {e : Stmt} {f : Option Expr → Pos → Bool} (h : onSRet e f = true) : ∃ x0 x1, e = .Return x0 x1 ∧ f x0 x1 = true := onSRet_elim (P := fun e => ∃ x0 x1, e = .Return x0 x1 ∧ f x0 x1 = true) h fun x0 x1 q => ⟨x0, x1, rfl, q⟩
noncomputable def onSCont (e : Stmt) (f : Pos → Bool) : Bool := if h : e.ctorIdx = 27 then Stmt.Continue.elim (motive_2 := fun _ => Bool) e h f else false
@[elab_as_elim] theorem onSCont_elim {P : Stmt → Prop} {e : Stmt} {f : Pos → Bool} (h : onSCont e f = true) (k : ∀ x0, f x0 = true → P (.Continue x0)) : P e :=
  if q : e.ctorIdx = 27 then Stmt.Continue.elim (motive_2 := fun e => onSCont e f = true → P e) e q k h else falseNot ((dif_neg q).symm.trans h)
theorem onSCont_inv {e : Stmt} {f : Pos → Bool} (h : onSCont e f = true) : ∃ x0, e = .Continue x0 ∧ f x0 = true := onSCont_elim (P := fun e => ∃ x0, e = .Continue x0 ∧ f x0 = true) h fun x0 q => ⟨x0, rfl, q⟩
noncomputable def onSTry (e : Stmt) (f : List Stmt → List ExceptHandler → List Stmt → List Stmt → Pos → Bool) : Bool := if h : e.ctorIdx = 17 then Stmt.Try.elim (motive_2 := fun _ => Bool) e h f else false
@[elab_as_elim] theorem onSTry_elim {P : Stmt → Prop} {e : Stmt} {f : List Stmt → List ExceptHandler → List Stmt → List Stmt → Pos → Bool} (h : onSTry e f = true) (k : ∀ x0 x1 x2 x3 x4, f x0 x1 x2 x3 x4 = true → P (.Try x0 x1 x2 x3 x4)) : P e :=
  if q : e.ctorIdx = 17 then Stmt.Try.elim (motive_2 := fun e => onSTry e f = true → P e) e q k h else falseNot ((dif_neg q).symm.trans h)
theorem onSTry_inv {e : Stmt} {f : List Stmt → List ExceptHandler → List Stmt → List Stmt → Pos → Bool} (h : onSTry e f = true) : ∃ x0 x1 x2 x3 x4, e = .Try x0 x1 x2 x3 x4 ∧ f x0 x1 x2 x3 x4 = true := onSTry_elim (P := fun e => ∃ x0 x1 x2 x3 x4, e = .Try x0 x1 x2 x3 x4 ∧ f x0 x1 x2 x3 x4 = true) h fun x0 x1 x2 x3 x4 q => ⟨x0, x1, x2, x3, x4, rfl, q⟩
noncomputable def onSRaise (e : Stmt) (f : Option Expr → Option Expr → Pos → Bool) : Bool := if h : e.ctorIdx = 16 then Stmt.Raise.elim (motive_2 := fun _ => Bool) e h f else false
@[elab_as_elim] theorem onSRaise_elim {P : Stmt → Prop} {e : Stmt} {f : Option Expr → Option Expr → Pos → Bool} (h : onSRaise e f = true) (k : ∀ x0 x1 x2, f x0 x1 x2 = true → P (.Raise x0 x1 x2)) : P e :=
  if q : e.ctorIdx = 16 then Stmt.Raise.elim (motive_2 := fun e => onSRaise e f = true → P e) e q k h else falseNot ((dif_neg q).symm.trans h)
theorem onSRaise_inv {e : Stmt} {f : Option Expr → Option Expr → Pos → Bool} (h : onSRaise e f = true) : ∃ x0 x1 x2, e = .Raise x0 x1 x2 ∧ f x0 x1 x2 = true := onSRaise_elim (P := fun e => ∃ x0 x1 x2, e = .Raise x0 x1 x2 ∧ f x0 x1 x2 = true) h fun x0 x1 x2 q => ⟨x0, x1, x2, rfl, q⟩
noncomputable def onOne {α : Type} (l : List α) (f : α → Bool) : Bool := match l with
  | [] => false
  | b :: t => match t with
    | [] => f b
    | _ :: _ => false
@[elab_as_elim] theorem onOne_elim {α : Type} {P : List α → Prop} {l : List α} {f : α → Bool} (h : onOne l f = true) (k : ∀ b, f b = true → P [b]) : P l := by
  cases l with
  | nil => exact falseNot h
  | cons b t => cases t with
    | nil => exact k b h
    | cons _ _ => exact falseNot h
theorem onOne_inv {α : Type} {l : List α} {f : α → Bool} (h : onOne l f = true) : ∃ b, l = [b] ∧ f b = true := onOne_elim (P := fun l => ∃ b, l = [b] ∧ f b = true) h fun b q => ⟨b, rfl, q⟩
@[elab_as_elim] theorem nil_elim {α : Type} {P : List α → Prop} {l : List α} (h : l.isEmpty = true) (k : P []) : P l := by
  cases l with
  | nil => exact k
  | cons _ _ => exact falseNot h
@[elab_as_elim] theorem any_elim {α : Type} {P : Option α → Prop} {o : Option α} {f : α → Bool} (h : o.any f = true) (k : ∀ b, f b = true → P (some b)) : P o := by
  cases o with
  | none => exact falseNot h
  | some b => exact k b h
@[elab_as_elim] theorem none_elim {α : Type} {P : Option α → Prop} {o : Option α} (h : o.isNone = true) (k : P none) : P o := by
  cases o with
  | none => exact k
  | some b => exact falseNot h
@[elab_as_elim] theorem dec_elim {α : Type} {P : α → Prop} {a b : α} {d : Decidable (a = b)} (h : decide (a = b) = true) (k : P b) : P a := (of_decide_eq_true h) ▸ k
theorem and_elim {P : Prop} {a b : Bool} (h : (a && b) = true) (k : a = true → b = true → P) : P := k (Bool.and_eq_true_iff.mp h).1 (Bool.and_eq_true_iff.mp h).2
theorem andL {a b : Bool} (h : (a && b) = true) : a = true := (Bool.and_eq_true_iff.mp h).1
theorem andR {a b : Bool} (h : (a && b) = true) : b = true := (Bool.and_eq_true_iff.mp h).2
theorem notStar {e : Expr} (h : Nat.beq e.ctorIdx 22 = false) : ∀ a p, e ≠ .Starred a p := fun a p q => by subst q; cases h
theorem notSet {e : Expr} (h : Nat.beq e.ctorIdx 7 = false) : ∀ l k p, e ≠ .Set l k p := fun l k p q => by subst q; cases h
theorem notSlice {e : Expr} (h : Nat.beq e.ctorIdx 26 = false) : ∀ l u st p, e ≠ .Slice l u st p := fun l u st p q => by subst q; cases h
noncomputable def isNameE (e : Expr) : Bool := onName e fun _ _ => true
noncomputable def copsIs : List COp → List CmpOp → Bool
  | [], l => l.isEmpty
  | a :: r, l => match l with
    | [] => false
    | b :: t => copIs a b && copsIs r t

mutual
noncomputable def chkE (names fn : List PySem.Str) : X → Scope → Option PySem.Str → Expr → Bool
  | .none, _, _, e => onCon e fun c _ _ => decide (c = .none)
  | .bool b, _, _, e => onCon e fun c _ _ => decide (c = .bool b)
  | .int i, _, _, e => onCon e (fun c _ _ => decide (c = .int i)) || onUn e (fun o x _ => decide (o = .USub) && onCon x fun c _ _ => decide (c = .int (-i)))
  | .str l, _, _, e => onCon e fun c _ _ => onStr c fun x => x.cps.toList == l
  | .bytes l, _, _, e => onCon e fun c _ _ => onBytes c fun b => (b.map fun c => (c.toNat : Int)) == l
  | .var i, sc, cv, e => onName e fun y _ => names[i]? == some y && !(y == debugS) && (match cv with
      | none => sc.names.lookup y == some .local || sc.names.lookup y == some .cell
      | some _ => sc.names.lookup y == some .cell)
  | .cvar, sc, cv, e => onName e fun y _ => cv == some y && !(y == debugS) && sc.names.lookup y == some .local
  | .bin op a b, sc, cv, e => onBin e fun l o r _ => opIs op o && chkE names fn a sc cv l && chkE names fn b sc cv r
  | .cmp a ops bs, sc, cv, e => onCmp e fun l os rs _ => copsIs ops os && chkE names fn a sc cv l && chkEs names fn bs sc cv rs
  | .land l, sc, cv, e => onBool e fun o vs _ => decide (o = .And) && chkEs names fn l sc cv vs
  | .lor l, sc, cv, e => onBool e fun o vs _ => decide (o = .Or) && chkEs names fn l sc cv vs
  | .ife t a b, sc, cv, e => onIf e fun t' a' b' _ => chkE names fn t sc cv t' && chkE names fn a sc cv a' && chkE names fn b sc cv b'
  | .item a i, sc, cv, e => onSub e fun v sl _ => chkE names fn a sc cv v && chkE names fn i sc cv sl
  | .from_ a lo, sc, cv, e => onSub e fun v sl _ => onSlc sl fun l u st _ => u.isNone && st.isNone && l.any fun l => chkE names fn a sc cv v && chkE names fn lo sc cv l
  | .upto a hi, sc, cv, e => onSub e fun v sl _ => onSlc sl fun l u st _ => l.isNone && st.isNone && u.any fun u => chkE names fn a sc cv v && chkE names fn hi sc cv u
  | .cut a lo hi, sc, cv, e => onSub e fun v sl _ => onSlc sl fun l u st _ => st.isNone && l.any fun l => u.any fun u => chkE names fn a sc cv v && chkE names fn lo sc cv l && chkE names fn hi sc cv u
  | .tup l, sc, cv, e => onTup e fun es _ _ => decide (es.length ≤ 1000) && chkEs names fn l sc cv es
  | .lst l, sc, cv, e => onLst e fun es _ => decide (es.length ≤ 1000) && chkEs names fn l sc cv es
  | .call f args, sc, cv, e => onCall e fun g es ks _ => ks.isEmpty && onName g fun g _ => fn[f]? == some g && !(g == debugS) && sc.names.lookup g == some .globalImplicit && chkEs names fn args sc cv es
  | .prim p args, sc, cv, e => onCall e fun g es ks _ => ks.isEmpty && onName g fun g _ => g == primName p && !(g == debugS) && sc.names.lookup g == some .globalImplicit && chkEs names fn args sc cv es
  | .join a, sc, cv, e => onCall e fun g es ks pos => ks.isEmpty && onOne es fun b => onAttr g fun c m apos => onCon c fun c _ _ => decide (c = .str ⟨#[]⟩) && m == "join" && apos.endLine == pos.line && chkE names fn a sc cv b
  | .index a i, sc, cv, e => onCall e fun g es ks pos => ks.isEmpty && onOne es fun b => onAttr g fun o m apos => m == "index" && apos.endLine == pos.line && isNameE o && chkE names fn a sc cv o && chkE names fn i sc cv b
  | .comp elt src, sc, cv, e => onComp e fun el gs sc' _ => onOne gs fun g => g.ifs.isEmpty && onName g.target fun y _ => g.is_async == 0 && cv == none && scOk sc' sc y && chkE names fn src sc cv g.iter && chkE names fn elt (relabelS sc' sc) (some y) el
  | .filt src test, sc, cv, e => onComp e fun el gs sc' _ => onOne gs fun g => onOne g.ifs fun t => onName el fun z _ => onName g.target fun y _ => g.is_async == 0 && z == y && !(y == debugS) && cv == none && scOk sc' sc y && chkE names fn src sc cv g.iter && chkE names fn test (relabelS sc' sc) (some y) t
noncomputable def chkEs (names fn : List PySem.Str) : List X → Scope → Option PySem.Str → List Expr → Bool
  | [], _, _, es => es.isEmpty
  | x :: xs, sc, cv, es => match es with
    | e :: es => chkE names fn x sc cv e && chkEs names fn xs sc cv es
    | [] => false
end

/-- no name of the text hides a builtin that it uses -/
structure NoPrim (mg : PySem.Str → Option Value) : Prop where
  prim : ∀ p, mg (primName p) = none
  exc : mg "Exception" = none

/-- the world around: the top as it was, names of the text's own functions -/
structure Gl (h₀ : Heap) (mg mb : PySem.Str → Option Value) (fn : List PySem.Str) (fa : Nat → Addr) : Prop where
  g : h₀.Ns mainGlobals mg
  b : h₀.Ns builtinsNs mb
  nolimit : h₀.NoLimit
  bi : ∀ x : PySem.Str, x ≠ "__name__" → mb x = bootBuiltins x
  prim : ∀ p, mg (primName p) = none
  exc : mg "Exception" = none
  fns : ∀ (f : Nat) (g : PySem.Str), fn[f]? = some g → mg g = some (.ref (fa f)) ∧ ∃ o fd, h₀.get? (fa f) = some o ∧ o.data = .func fd

structure EnvOk (env : Env) : Prop where
  kind : env.scope.kind = .function
  glob : env.globals = mainGlobals
  blt : env.builtins = builtinsNs
  cells : ∀ n, env.scope.names.lookup n = some .cell → ∃ c, env.cells.lookup n = some c

structure EInv (h₀ : Heap) (names : List PySem.Str) (env : Env) (cv : Option (PySem.Str × D)) (W : AddrSet) (σ : List Slot) (h : Heap) : Prop where
  base : ∀ b o, h₀.get? b = some o → h.get? b = some o
  wok : WOk W h
  loc : cv = none → ∀ (i : Nat) (y : PySem.Str) (d : D), names[i]? = some y → σ[i]? = some (.val d) → env.scope.names.lookup y = some .local →
    ∃ m v, h.Ns env.locals m ∧ m y = some v ∧ Rep W h d v
  cel : ∀ (i : Nat) (y : PySem.Str) (d : D), names[i]? = some y → σ[i]? = some (.val d) → env.scope.names.lookup y = some .cell →
    ∃ c v, env.cells.lookup y = some c ∧ h.IsCell c (some v) ∧ Rep W h d v
  cvr : ∀ y d, cv = some (y, d) → ∃ m v, h.Ns env.locals m ∧ m y = some v ∧ Rep W h d v

theorem EInv.keeps {h₀ : Heap} {names : List PySem.Str} {env : Env} {cv : Option (PySem.Str × D)} {W : AddrSet} {σ : List Slot} {h h' : Heap} (x : EInv h₀ names env cv W σ h)
    (k : ∀ a o, h.get? a = some o → h'.get? a = some o) : EInv h₀ names env cv W σ h' where
  base := fun b o e => k _ _ (x.base b o e)
  wok := x.wok.keeps k
  loc := fun e i y d h1 h2 h3 => let ⟨m, v, a, b, c⟩ := x.loc e i y d h1 h2 h3; ⟨m, v, a.keeps k, b, c.keeps k⟩
  cel := fun i y d h1 h2 h3 => let ⟨m, v, a, b, c⟩ := x.cel i y d h1 h2 h3; ⟨m, v, a, b.keeps k, c.keeps k⟩
  cvr := fun y d e => let ⟨m, v, a, b, c⟩ := x.cvr y d e; ⟨m, v, a.keeps k, b, c.keeps k⟩

/-- Rep tells the datum -/
theorem byteArr_inj {a b : List Int} (ha : ∀ n ∈ a, 0 ≤ n ∧ n < 256) (hb : ∀ n ∈ b, 0 ≤ n ∧ n < 256) (e : byteArr a = byteArr b) : a = b := by
  rw [← KBa.ints_make ha, ← KBa.ints_make hb, e]

theorem list_ne_tuple : ("list" : String) ≠ "tuple" := by decide

mutual
theorem Rep.uniq {W : AddrSet} {h : Heap} : ∀ (d : D) (d' : D) (v : Value), Rep W h d v → Rep W h d' v → d = d'
  | .none, d', v, x, y => by
    unfold Rep at x; subst x
    cases d' <;> unfold Rep at y <;> first | rfl | (cases y; done) | (obtain ⟨_, y⟩ := y; cases y; done) | (obtain ⟨_, _, y⟩ := y; cases y; done) | (obtain ⟨_, _, _, _, y, _⟩ := y; cases y; done) | (obtain ⟨_, _, y, _⟩ := y; cases y)
  | .bool b, d', v, x, y => by
    unfold Rep at x; subst x
    cases d' <;> unfold Rep at y <;> first | (cases y; rfl) | (cases y; done) | (obtain ⟨_, y⟩ := y; cases y; done) | (obtain ⟨_, _, y⟩ := y; cases y; done) | (obtain ⟨_, _, _, _, y, _⟩ := y; cases y; done) | (obtain ⟨_, _, y, _⟩ := y; cases y)
  | .int i, d', v, x, y => by
    unfold Rep at x; obtain ⟨t, rfl⟩ := x
    cases d' <;> unfold Rep at y <;> first | (obtain ⟨_, y⟩ := y; cases y; rfl) | (cases y; done) | (obtain ⟨_, y⟩ := y; cases y; done) | (obtain ⟨_, _, y⟩ := y; cases y; done) | (obtain ⟨_, _, _, _, y, _⟩ := y; cases y; done) | (obtain ⟨_, _, y, _⟩ := y; cases y)
  | .str l, d', v, x, y => by
    unfold Rep at x; obtain ⟨t, rfl⟩ := x
    cases d' <;> unfold Rep at y <;> first | (obtain ⟨_, y⟩ := y; simp at y; rw [y.1]) | (cases y; done) | (obtain ⟨_, y⟩ := y; cases y; done) | (obtain ⟨_, _, y⟩ := y; cases y; done) | (obtain ⟨_, _, _, _, y, _⟩ := y; cases y; done) | (obtain ⟨_, _, y, _⟩ := y; cases y)
  | .bytes l, d', v, x, y => by
    unfold Rep at x; obtain ⟨r, t, rfl⟩ := x
    cases d' <;> unfold Rep at y <;> first | (cases y; done) | (obtain ⟨r', _, y⟩ := y; simp at y; rw [byteArr_inj r r' y.1]) | (obtain ⟨_, y⟩ := y; cases y; done) | (obtain ⟨_, _, y⟩ := y; cases y; done) | (obtain ⟨_, _, _, _, y, _⟩ := y; cases y; done) | (obtain ⟨_, _, y, _⟩ := y; cases y)
  | .range a b c, d', v, x, y => by
    unfold Rep at x; obtain ⟨r, t, u, z, rfl, hr, ho⟩ := x
    cases d' with
    | range a' b' c' =>
      unfold Rep at y; obtain ⟨r', t', u', z', e, hr', ho'⟩ := y
      cases e
      have := ho.symm.trans ho'
      simp at this
      obtain ⟨⟨rfl, _⟩, ⟨rfl, _⟩, rfl, _⟩ := this
      rfl
    | tup l =>
      unfold Rep at y; obtain ⟨a', vs, e, _, ⟨o, ho', hc, _⟩, _⟩ := y
      cases e
      rw [ho] at ho'; cases ho'; simp at hc
    | lst l =>
      unfold Rep at y; obtain ⟨a', vs, e, _, ⟨n, ho'⟩, _⟩ := y
      cases e
      rw [ho] at ho'; simp at ho'
    | _ => unfold Rep at y; first | (cases y; done) | (obtain ⟨_, y⟩ := y; cases y; done) | (obtain ⟨_, _, y⟩ := y; cases y; done)
  | .tup l, d', v, x, y => by
    unfold Rep at x; obtain ⟨a, vs, rfl, ha, ⟨o, ho, hc, n, hd⟩, rl⟩ := x
    cases d' with
    | tup l' =>
      unfold Rep at y; obtain ⟨a', vs', e, _, ⟨o', ho', hc', n', hd'⟩, rl'⟩ := y
      cases e
      rw [ho] at ho'; cases ho'
      rw [hd] at hd'
      simp at hd'
      obtain ⟨rfl, _⟩ := hd'
      rw [RepL.uniq l l' vs rl rl']
    | range a' b' c' =>
      unfold Rep at y; obtain ⟨r', t', u', z', e, hr', ho'⟩ := y
      cases e
      have := ho.symm.trans ho'; cases this; simp at hc
    | lst l' =>
      unfold Rep at y; obtain ⟨a', vs', e, _, ⟨n', ho'⟩, _⟩ := y
      cases e
      rw [ho] at ho'; cases ho'; simp at hc
    | _ => unfold Rep at y; first | (cases y; done) | (obtain ⟨_, y⟩ := y; cases y; done) | (obtain ⟨_, _, y⟩ := y; cases y; done)
  | .lst l, d', v, x, y => by
    unfold Rep at x; obtain ⟨a, vs, rfl, ha, ⟨n, ho⟩, rl⟩ := x
    cases d' with
    | lst l' =>
      unfold Rep at y; obtain ⟨a', vs', e, _, ⟨n', ho'⟩, rl'⟩ := y
      cases e
      rw [ho] at ho'
      simp at ho'
      obtain ⟨rfl, _⟩ := ho'
      rw [RepL.uniq l l' vs rl rl']
    | range a' b' c' =>
      unfold Rep at y; obtain ⟨r', t', u', z', e, hr', ho'⟩ := y
      cases e
      have := ho.symm.trans ho'; simp at this
    | tup l' =>
      unfold Rep at y; obtain ⟨a', vs', e, _, ⟨o', ho', hc', _⟩, _⟩ := y
      cases e
      rw [ho] at ho'; cases ho'; simp at hc'
    | _ => unfold Rep at y; first | (cases y; done) | (obtain ⟨_, y⟩ := y; cases y; done) | (obtain ⟨_, _, y⟩ := y; cases y; done)
theorem RepL.uniq {W : AddrSet} {h : Heap} : ∀ (ds ds' : List D) (vs : List Value), RepL W h ds vs → RepL W h ds' vs → ds = ds'
  | [], ds', vs, x, y => by
    rw [x.invNil] at y
    cases ds' with
    | nil => rfl
    | cons d r => obtain ⟨v, r', e, _⟩ := y.inv; cases e
  | d :: r, ds', vs, x, y => by
    obtain ⟨v, vr, rfl, a, b⟩ := x.inv
    cases ds' with
    | nil => have := y.invNil; cases this
    | cons d' r' =>
      obtain ⟨v', vr', e, a', b'⟩ := y.inv
      cases e
      rw [Rep.uniq d d' v a a', RepL.uniq r r' vr b b']
end
end Mine

namespace Mine
open PySem PySem.W PySem.Calls PyProof.Rows PySem.SeqAt

theorem rep_scalar {W W' : AddrSet} {h h' : Heap} {d : D} {v : Value} (e : scalar d = true) (x : Rep W h d v) : Rep W' h' d v := by
  cases d <;> simp [scalar] at e <;> (unfold Rep at x ⊢; exact x)

section
variable {prog : Program} {w : World} {A : Around} {E : Value → Shared → Prop} {s : Shared} {W : AddrSet} {Q : Value → Shared → Prop}

theorem iter_ok {d : D} {v : Value} {l : List D} (hh : A.handled = none) (wok : WOk W s.heap) (ha : Rep W s.heap d v) (hi : itemsOf d = some l)
    (h : ∀ (o : Obj) (P : Nat → Value → Prop) (St : Nat → Heap → Prop) (fp : List Addr), Walks prog w A s.heap.objs.size fp [s.heap.objs.size] l.length P St → l.length ≤ big →
      (∀ b ∈ fp, b = s.heap.objs.size ∨ (¬ W b ∧ ∃ o, s.heap.get? b = some o)) → St 0 (s.heap.push o) →
      (∀ i u, P i u → ∃ d, l[i]? = some d ∧ Rep W s.heap d u) → ((∃ l0, d = .lst l0) → ∀ i h, St i h → ∃ ax, h.IsListIter s.heap.objs.size ax i) →
      (∀ i h, St i h → ∃ o', h.get? s.heap.objs.size = some o') → Q (.ref s.heap.objs.size) { s with heap := s.heap.push o }) :
    wpAny (model prog w) A (pyIter v) Q E s := by
  unfold itemsOf at hi
  split at hi
  · -- list
    split at hi
    · rename_i hl
      cases hi
      unfold Rep at ha; obtain ⟨a, vs, rfl, ha, pl, rl⟩ := ha
      obtain ⟨n, ho⟩ := id pl
      have hne : a ≠ s.heap.objs.size := Nat.ne_of_lt (Heap.lt_size ho)
      have W0 := Walks.list (prog := prog) (w := w) hh s.heap.objs.size a hne vs.toArray
      have e0 : vs.toArray.size = l.length := by rw [List.size_toArray, rl.len]
      rw [e0] at W0
      refine wpAny_pyIter_list pl.isList (h _ _ _ _ W0 hl ?_ ?_ ?_ (fun _ i h st => ⟨_, st.1⟩) (fun _ _ st => let ⟨o, ho, _⟩ := st.1; ⟨o, ho⟩))
      · intro b hb
        simp only [List.mem_cons, List.not_mem_nil, or_false] at hb
        rcases hb with rfl | rfl
        · exact .inl rfl
        · exact .inr ⟨ha, _, ho⟩
      · exact ⟨⟨_, Heap.get?_push_size _ rfl, rfl, rfl⟩, pl.isList.push _⟩
      · intro i u hu
        exact rl.getV (by simpa using hu)
    · cases hi
  · split at hi
    · rename_i hl
      cases hi
      unfold Rep at ha; obtain ⟨a, vs, rfl, ha, pl, rl⟩ := ha
      obtain ⟨o, ho, _⟩ := id pl
      have hne : a ≠ s.heap.objs.size := Nat.ne_of_lt (Heap.lt_size ho)
      have W0 := Walks.tuple (prog := prog) (w := w) hh s.heap.objs.size a hne vs.toArray
      have e0 : vs.toArray.size = l.length := by rw [List.size_toArray, rl.len]
      rw [e0] at W0
      refine wpAny_pyIter_tuple pl (h _ _ _ _ W0 hl ?_ ?_ ?_ (by rintro ⟨l0, e⟩; cases e) (fun _ _ st => let ⟨o, ho, _⟩ := st.1; ⟨o, ho⟩))
      · intro b hb
        simp only [List.mem_cons, List.not_mem_nil, or_false] at hb
        rcases hb with rfl | rfl
        · exact .inl rfl
        · exact .inr ⟨ha, _, ho⟩
      · exact ⟨⟨_, Heap.get?_push_size _ rfl, rfl, rfl⟩, pl.push _⟩
      · intro i u hu
        exact rl.getV (by simpa using hu)
    · cases hi
  · split at hi
    · rename_i l' hl
      cases hi
      unfold Rep at ha; obtain ⟨ra, t, rfl⟩ := ha
      have hbi := KBa.ints_make ra
      have W0 := KBw.walks (prog := prog) (w := w) hh s.heap.objs.size (byteArr l') t
      rw [byteArr_size, ← List.length_map (f := D.int)] at W0
      refine KBw.pyIter_bytes (h _ _ _ _ W0 (by rw [List.length_map]; exact hl) ?_ ?_ ?_ (by rintro ⟨l0, e⟩; cases e) (fun _ _ st => let ⟨o, ho, _⟩ := st; ⟨o, ho⟩))
      · intro b hb
        simp only [List.mem_cons, List.not_mem_nil, or_false] at hb
        exact .inl hb
      · exact ⟨_, Heap.get?_push_size _ rfl, rfl, rfl⟩
      · rintro i u ⟨c, tk, hc, rfl⟩
        refine ⟨.int c.toNat, ?_, rep_int _ _⟩
        have := KBw.ints_get hc
        rw [hbi] at this
        rw [List.getElem?_map, this]; rfl
    · cases hi
  · split at hi
    · rename_i l' hl
      cases hi
      unfold Rep at ha; obtain ⟨t, rfl⟩ := ha
      have e : (⟨l'.toArray⟩ : PySem.Str).cps.size = (l'.map fun c => D.str [c]).length := by simp
      have hsign : ∀ i u, SignAt ⟨l'.toArray⟩ i u → ∃ d, (l'.map fun c => D.str [c])[i]? = some d ∧ Rep W s.heap d u := by
        rintro i u ⟨c, tk, hc, rfl⟩
        refine ⟨.str [c], ?_, rep_str _ _⟩
        rw [List.getElem?_map]
        have : l'[i]? = some c := by simpa using hc
        rw [this]; rfl
      cases hasc : (⟨l'.toArray⟩ : PySem.Str).cps.all (· < 128) with
      | false =>
        have W0 := Walks.strWide (prog := prog) (w := w) hh s.heap.objs.size ⟨l'.toArray⟩ t
        rw [e] at W0
        refine wpAny_pyIter_wide hasc (h _ _ _ _ W0 (by rw [List.length_map]; exact hl) ?_ ⟨_, Heap.get?_push_size _ rfl, rfl, rfl⟩ hsign (by rintro ⟨l0, e⟩; cases e) (fun _ _ st => let ⟨o, ho, _⟩ := st; ⟨o, ho⟩))
        intro b hb
        simp only [List.mem_cons, List.not_mem_nil, or_false] at hb
        exact .inl hb
      | true =>
        have W0 := Walks.strAscii (prog := prog) (w := w) hh s.heap.objs.size ⟨l'.toArray⟩ t
        rw [e] at W0
        refine wpAny_pyIter_ascii hasc (h _ _ _ _ W0 (by rw [List.length_map]; exact hl) ?_ ⟨_, Heap.get?_push_size _ rfl, rfl, rfl⟩ hsign (by rintro ⟨l0, e⟩; cases e) (fun _ _ st => let ⟨o, ho, _⟩ := st; ⟨o, ho⟩))
        intro b hb
        simp only [List.mem_cons, List.not_mem_nil, or_false] at hb
        exact .inl hb
    · cases hi
  · split at hi
    · rename_i hl
      cases hi
      unfold Rep at ha; obtain ⟨r, t, u, x, rfl, hr, ho⟩ := ha
      obtain ⟨h1, h2, h3⟩ := rangeOk_inv hl
      rename_i a b c
      have W0 := (Walks.range (prog := prog) (w := w) hh s.heap.objs.size a c (rangeNum a b c)).bound
      have e : rangeNum a b c = ((rangeList a b c).map D.int).length := by simp [rangeList]
      refine wpAny_pyIter_range ho h1 (h _ _ _ _ (by rw [← e]; exact W0) (by rw [← e]; exact h3) ?_ ?_ ?_ (by rintro ⟨l0, e⟩; cases e) (fun _ _ st => ⟨_, st⟩))
      · intro b hb
        simp only [List.mem_cons, List.not_mem_nil, or_false] at hb
        exact .inl hb
      · have := Heap.get?_push_size s.heap (o := { cls := .type "range_iterator", data := .fields #[rawInt a, rawInt (Builtin.Range.rangeSize a b c), rawInt c] }) rfl
        rw [h2] at this ⊢
        simpa using this
      · rintro i u ⟨hi, tk, rfl⟩
        refine ⟨.int (a + i * c), ?_, rep_int _ _⟩
        simp [rangeList, hi]
    · cases hi
  · cases hi
end
end Mine

namespace Mine
open PySem PySem.W PySem.Calls PyProof.Rows PySem.SeqAt

noncomputable def clOf (env : Env) : List (PySem.Str × NameKind) → List (PySem.Str × Addr) → List (PySem.Str × Addr)
  | [], acc => acc
  | (n, k) :: r, acc => if k == .free then clOf env r ((n, (env.cells.lookup n).getD 0) :: acc) else clOf env r acc

theorem forIn_clOf (env : Env) (f : PySem.Str × NameKind → List (PySem.Str × Addr) → Sem (ForInStep (List (PySem.Str × Addr))))
    (hf : ∀ n k cs, f (n, k) cs = if k == .free then (do let c ← cellOf env n; pure (.yield ((n, c) :: cs))) else pure (.yield cs)) :
    ∀ (names : List (PySem.Str × NameKind)) (acc : List (PySem.Str × Addr)), (∀ x ∈ names, x.2 = .free → ∃ c, env.cells.lookup x.1 = some c) →
      forIn names acc f = pure (clOf env names acc)
  | [], acc, _ => by simp [clOf]
  | (n, k) :: r, acc, h => by
    rw [List.forIn_cons, hf]
    have hr := fun x hx => h x (List.mem_cons_of_mem _ hx)
    by_cases hk : k = .free
    · subst hk
      obtain ⟨c, hc⟩ := h (n, .free) (.head _) rfl
      have e : cellOf env n = pure c := by unfold cellOf; rw [hc]
      simp only [beq_self_eq_true, if_true, e, pure_bind]
      rw [forIn_clOf env f hf r _ hr]
      have hc' : env.cells.lookup n = some c := hc
      simp only [clOf, beq_self_eq_true, if_true, hc', Option.getD_some]
    · have hb : (k == NameKind.free) = false := by simpa using hk
      simp only [hb, Bool.false_eq_true, if_false, pure_bind]
      rw [forIn_clOf env f hf r _ hr]
      simp only [clOf, hb, Bool.false_eq_true, if_false]

theorem closureFor_clOf {env : Env} {scope : Scope} (h : ∀ x ∈ scope.names, x.2 = .free → ∃ c, env.cells.lookup x.1 = some c) :
    closureFor scope env = pure (clOf env scope.names []) := by
  unfold closureFor
  have := forIn_clOf env (fun x r => if x.2 == NameKind.free then (do let c ← cellOf env x.1; pure (.yield ((x.1, c) :: r))) else pure (.yield r))
    (fun n k cs => rfl) scope.names [] h
  have e : (forIn scope.names ([] : List (PySem.Str × Addr)) fun x r =>
      match x with
      | (name, kind) => if (kind == NameKind.free) = true then do
          let __do_lift ← cellOf env name
          pure (ForInStep.yield ((name, __do_lift) :: r))
        else pure (ForInStep.yield r)) = pure (clOf env scope.names []) := this
  first
    | exact (by rw [e]; rfl)
    | (simp only []; rw [e]; rfl)

theorem clOf_lookup {env : Env} {n : PySem.Str} {c : Addr} (hc : env.cells.lookup n = some c) :
    ∀ (names : List (PySem.Str × NameKind)) (acc : List (PySem.Str × Addr)), (∀ c', acc.lookup n = some c' → c' = c) → ((n, NameKind.free) ∈ names ∨ acc.lookup n = some c) →
      (clOf env names acc).lookup n = some c
  | [], acc, _, h => by
    rcases h with h | h
    · cases h
    · exact h
  | (m, k) :: r, acc, ha, h => by
    unfold clOf
    by_cases hk : k = .free
    · subst hk
      simp only [beq_self_eq_true, if_true]
      by_cases hm : n = m
      · subst hm
        refine clOf_lookup hc r _ ?_ (.inr ?_)
        · intro c' e
          simp only [List.lookup_cons, beq_self_eq_true, hc, Option.getD_some, Option.some.injEq] at e
          exact e.symm
        · simp only [List.lookup_cons, beq_self_eq_true, hc, Option.getD_some]
      · have hb : (n == m) = false := by simpa using hm
        refine clOf_lookup hc r _ ?_ ?_
        · intro c' e
          simp only [List.lookup_cons, hb] at e
          exact ha c' e
        · rcases h with h | h
          · rcases List.mem_cons.mp h with e | h
            · cases e; exact absurd rfl hm
            · exact .inl h
          · right
            simp only [List.lookup_cons, hb]
            exact h
    · have hb : (k == NameKind.free) = false := by simpa using hk
      simp only [hb, Bool.false_eq_true, if_false]
      refine clOf_lookup hc r acc ha ?_
      rcases h with h | h
      · rcases List.mem_cons.mp h with e | h
        · cases e; exact absurd rfl hk
        · exact .inl h
      · exact .inr h

theorem relabel_eq (scope : Scope) (env : Env) : relabel scope env = relabelS scope env.scope := rfl

theorem relabel_cell {scope outer : Scope} {y : PySem.Str} (hc : ∀ x ∈ scope.names, x.2 ≠ .cell) (h : (relabelS scope outer).names.lookup y = some .cell) :
    (y, NameKind.free) ∈ scope.names ∧ outer.names.lookup y = some .cell := by
  have := mem_of_lookup h
  unfold relabelS at this
  simp only [List.mem_map] at this
  obtain ⟨⟨n, k⟩, hm, e⟩ := this
  by_cases hb : (k == NameKind.free && outer.kind == ScopeKind.function && outer.names.lookup n == some NameKind.cell) = true
  · simp only [hb, if_true] at e
    cases e
    simp only [Bool.and_eq_true, beq_iff_eq] at hb
    rw [hb.1.1] at hm
    exact ⟨hm, hb.2⟩
  · simp only [hb] at e
    cases e
    exact absurd rfl (hc _ hm)

structure ScOk (sc outer : Scope) (y : PySem.Str) : Prop where
  kind : sc.kind = .function
  nocell : ∀ x ∈ sc.names, x.2 ≠ .cell
  locs : ∀ x ∈ sc.names, x.2 = .local → sc.names.lookup x.1 = some .local
  frees : ∀ x ∈ sc.names, x.2 = .free → outer.names.lookup x.1 = some .cell
  var : sc.names.lookup y = some .local
theorem scOk_inv {sc outer : Scope} {y : PySem.Str} (h : scOk sc outer y = true) : ScOk sc outer y := by
  unfold scOk at h
  simp only [Bool.and_eq_true, List.all_eq_true, beq_iff_eq, bne_iff_ne, Bool.or_eq_true] at h
  obtain ⟨⟨⟨⟨h1, h2⟩, h3⟩, h4⟩, h5⟩ := h
  refine ⟨h1, fun x hx => h2 x hx, fun x hx e => ?_, fun x hx e => ?_, h5⟩
  · rcases h3 x hx with h | h
    · exact absurd e h
    · exact h
  · rcases h4 x hx with h | h
    · exact absurd e h
    · exact h

section
variable {prog : Program} {w : World} {A : Around} {h₀ : Heap} {names fn : List PySem.Str} {F : FTab} {σ : List Slot}

theorem envOk_comp {env : Env} {sc : Scope} {y : PySem.Str} (he : EnvOk env) (hs : ScOk sc env.scope y) (C : Addr) : EnvOk (compEnvC sc (clOf env sc.names []) C env) where
  kind := hs.kind
  glob := he.glob
  blt := he.blt
  cells := fun n hn => by
    obtain ⟨hm, ho⟩ := relabel_cell hs.nocell hn
    obtain ⟨c, hc⟩ := he.cells n ho
    exact ⟨c, clOf_lookup hc _ _ (fun c' e => by cases e) (.inl hm)⟩

theorem inv_comp {env : Env} {sc : Scope} {y : PySem.Str} {W : AddrSet} {h h' : Heap} {C : Addr} {d : D} {v : Value} {m : PySem.Str → Option Value}
    (he : EnvOk env) (hs : ScOk sc env.scope y) (x : EInv h₀ names env none W σ h) (k : ∀ a o, h.get? a = some o → h'.get? a = some o)
    (hn : h'.Ns C m) (hm : m y = some v) (hd : Rep W h' d v) : EInv h₀ names (compEnvC sc (clOf env sc.names []) C env) (some (y, d)) W σ h' where
  base := fun b o e => k _ _ (x.base b o e)
  wok := x.wok.keeps k
  loc := fun e => nomatch e
  cel := fun i z d' h1 h2 h3 => by
    obtain ⟨hmem, ho⟩ := relabel_cell hs.nocell h3
    obtain ⟨c, v', hc, hv, hr⟩ := x.cel i z d' h1 h2 ho
    exact ⟨c, v', clOf_lookup hc _ _ (fun c' e => by cases e) (.inl hmem), hv.keeps k, hr.keeps k⟩
  cvr := fun z d' e => by cases e; exact ⟨m, v, hn, hm, hd⟩

noncomputable def EvOk (prog : Program) (w : World) (A : Around) (h₀ : Heap) (names : List PySem.Str) (F : FTab) (σ : List Slot) (env : Env) (cv : Option (PySem.Str × D)) (x : X) (e : Expr) : Prop :=
  ∀ (W : AddrSet) (s : Shared) (d : D) (Q : Value → Shared → Prop), evE F σ (cv.map (·.2)) x = some d → EInv h₀ names env cv W σ s.heap →
    (∀ v s', Keeps s s' → Rep W s'.heap d v → Q v s') → wpAny (model prog w) A (eval e env) Q (fun _ _ => False) s
noncomputable def TrOk (prog : Program) (w : World) (A : Around) (h₀ : Heap) (names : List PySem.Str) (F : FTab) (σ : List Slot) (env : Env) (cv : Option (PySem.Str × D)) (x : X) (e : Expr) : Prop :=
  ∀ (W : AddrSet) (s : Shared) (b : Bool) (Q : Bool → Shared → Prop), evE F σ (cv.map (·.2)) x = some (.bool b) → EInv h₀ names env cv W σ s.heap →
    (∀ s', Keeps s s' → Q b s') → wpAny (model prog w) A (isTrue e env (eval e env)) Q (fun _ _ => False) s

theorem compL_get {f : D → Option D} : ∀ {l r : List D}, compL f l = some r → ∀ {i : Nat} {d : D}, l[i]? = some d → ∃ y, f d = some y ∧ scalar y = true
  | [], r, h, i, d, e => by simp at e
  | a :: l, r, h, i, d, e => by
    unfold compL at h
    split at h
    · rename_i y hy
      split at h
      · rename_i hs
        split at h
        · rename_i l' hl
          cases i with
          | zero => simp at e; subst e; exact ⟨y, hy, hs⟩
          | succ i => exact compL_get hl (by simpa using e)
        · cases h
      · cases h
    · cases h

theorem compL_rep {W : AddrSet} {h h' : Heap} {f : D → Option D} {Fr : Value → Value → Prop} (hF : ∀ v u, Fr v u → ∃ dv dy, Rep W h dv v ∧ f dv = some dy ∧ scalar dy = true ∧ Rep W h dy u) :
    ∀ {l r : List D} {vs ys : List Value}, compL f l = some r → RepL W h l vs → Paired Fr vs ys → RepL W h' r ys
  | [], r, vs, ys, hc, hl, hp => by
    rw [hl.invNil] at hp
    cases hp
    simp [compL] at hc
    subst hc
    exact RepL.nil
  | d :: l, r, vs, ys, hc, hl, hp => by
    obtain ⟨v, vs', rfl, a, b⟩ := hl.inv
    cases hp with
    | cons h1 h2 =>
      unfold compL at hc
      split at hc
      · rename_i y hy
        split at hc
        · split at hc
          · rename_i l' hl'
            cases hc
            obtain ⟨dv, dy, r1, r2, r3, r4⟩ := hF _ _ h1
            have := Rep.uniq d dv v a r1
            subst this
            rw [hy] at r2
            cases r2
            exact RepL.cons (rep_scalar r3 r4) (compL_rep hF hl' b h2)
          · cases hc
        · cases hc
      · cases hc

theorem repL_of_places {W : AddrSet} {h : Heap} {l : List D} {vs : List Value} (hn : vs.length = l.length) (hp : ∀ (j : Nat) (v : Value), vs[j]? = some v → ∃ d, l[j]? = some d ∧ Rep W h d v) : RepL W h l vs := by
  induction l generalizing vs with
  | nil =>
    cases vs with
    | nil => exact RepL.nil
    | cons v vs => simp at hn
  | cons d l ih =>
    cases vs with
    | nil => simp at hn
    | cons v vs =>
      obtain ⟨d', e, r⟩ := hp 0 v rfl
      simp at e
      subst e
      exact RepL.cons r (ih (by simpa using hn) fun j u hj => by simpa using hp (j + 1) u (by simpa using hj))

theorem ListComp_in {s : Shared} {env : Env} {elt iter : Expr} {x : PySem.Str} {px : Pos} {ifs : List Expr} {scope : Scope} {cl : List (PySem.Str × Addr)} {pos : Pos} {Q E : Value → Shared → Prop}
    (hclos : closureFor scope env = pure cl) (hcell : ∀ y ∈ scope.names, y.2 ≠ .cell) (hkind : scope.kind = .function)
    (hnames : ∀ y ∈ scope.names, y.2 = .local → scope.names.lookup y.1 = some .local) (hx : scope.names.lookup x = some .local)
    (h : wpAny (model prog w) A (eval iter env) (fun xv s₁ => wpAny (model prog w) A (pyIter xv) (fun it s₂ => ∃ (p : Value → Bool) (Fr : Value → Value → Prop) (I : Addr) (fp wr : List Addr) (n : Nat) (P : Nat → Value → Prop) (St : Nat → Heap → Prop),
      it = .ref I ∧ Walks prog w A I fp wr n P St ∧ n ≤ sizeLine ∧ St 0 s₂.heap ∧ (∀ b ∈ fp, b < s₂.heap.objs.size) ∧
      QuietOnC prog w A env scope cl x ifs elt wr P p Fr s₂ ∧
      (∀ D h' tk ys (vs : List Value), s₂.heap.get? D = none → h'.IsList D ys → h'.PlainList D ys → vs.length = n → (∀ j v, vs[j]? = some v → P j v) → Paired Fr (vs.filter p) ys.toList →
        (∀ b o, b ∉ wr → s₂.heap.get? b = some o → h'.get? b = some o) → Q (.ref D) { s₂ with heap := h', toks := tk })) E s₁) E s)
    (hs : ∀ x, foldedSetIterable iter env x = pure x) :
    wpAny (model prog w) A (eval (.ListComp elt [⟨.Name x px, iter, ifs, 0⟩] scope pos) env) Q E s := by
  rw [eval_ListComp]
  refine wpAny_comprehension_free (use := none) rfl hs hclos hkind hnames (wpAny_mono h (fun xv s₁ h₁ => wpAny_mono h₁ (fun it s₂ h₂ => ?_) fun _ _ e => e) fun _ _ e => e)
  obtain ⟨p, Fr, I, fp, wr, n, P, St, rfl, W, hsz, hst, hfp, hq, hQ⟩ := h₂
  refine comp_block_walkC (RR := fun acc C => compPost (model prog w) A E none Q acc C) W hsz p Fr hcell hkind hx hst hfp hq ?_
  intro D C h' tk m' ys vs hD hC hDC hn hl hpl hlen hP hF hk
  exact ⟨m', hn, fun h'' hs'' => hQ D h'' tk ys vs hD (hl.extBut hs''.extBut hDC) (hpl.extBut hs''.extBut hDC) hlen hP hF fun b o hbf e => hs''.extBut b o (by rintro rfl; rw [hC] at e; cases e) (hk b o hbf e)⟩

theorem assignComp_in {s : Shared} {env : Env} {elt iter : Expr} {x y : PySem.Str} {px py : Pos} {ifs : List Expr} {scope : Scope} {cl : List (PySem.Str × Addr)} {pos spos : Pos} {Q : Flow → Shared → Prop} {E : Value → Shared → Prop}
    (hsw : swapsWith (.ListComp elt [⟨.Name x px, iter, ifs, 0⟩] scope pos) (some (.Name y py)) spos.line env = pure true)
    (hclos : closureFor scope env = pure cl) (hcell : ∀ z ∈ scope.names, z.2 ≠ .cell) (hkind : scope.kind = .function)
    (hnames : ∀ z ∈ scope.names, z.2 = .local → scope.names.lookup z.1 = some .local) (hx : scope.names.lookup x = some .local)
    (hy : env.kindOf y = some .local) (hp : (env.scope.kind == .class || (env.scope.kind == .module && env.locals != env.globals)) = false)
    (h : wpAny (model prog w) A (eval iter env) (fun xv s₁ => wpAny (model prog w) A (pyIter xv) (fun it s₂ => ∃ (p : Value → Bool) (Fr : Value → Value → Prop) (I : Addr) (fp wr : List Addr) (n : Nat) (P : Nat → Value → Prop) (St : Nat → Heap → Prop) (m : PySem.Str → Option Value),
      it = .ref I ∧ Walks prog w A I fp wr n P St ∧ n ≤ sizeLine ∧ St 0 s₂.heap ∧ (∀ b ∈ fp, b < s₂.heap.objs.size) ∧
      env.locals ∉ wr ∧ s₂.heap.Ns env.locals m ∧ QuietOnC prog w A env scope cl x ifs elt wr P p Fr s₂ ∧
      (∀ D h' tk ys (vs : List Value), s₂.heap.get? D = none → h'.IsList D ys → h'.PlainList D ys → vs.length = n → (∀ j v, vs[j]? = some v → P j v) → Paired Fr (vs.filter p) ys.toList →
        h'.Ns env.locals (fun z => if z = y then some (.ref D) else m z) → (∀ b o, b ≠ env.locals → b ∉ wr → s₂.heap.get? b = some o → h'.get? b = some o) → Q .next { s₂ with heap := h', toks := tk })) E s₁) E s)
    (hs : ∀ x, foldedSetIterable iter env x = pure x) :
    wpAny (model prog w) A (exec (.Assign [.Name y py] (.ListComp elt [⟨.Name x px, iter, ifs, 0⟩] scope pos) spos) env) Q E s := by
  rw [exec_Assign_Name_used _ _ _ _ hsw]
  refine wpAny_bind (wpAny_standAt (wpAny_bind ?_))
  show wpAny _ A (do let _ ← comprehension (.ListComp elt [⟨.Name x px, iter, ifs, 0⟩] scope pos) scope env _ (newList []) false (eval iter env) (some (assign (.Name y py) env))) _ _ s
  refine wpAny_bind (wpAny_mono (wpAny_comprehension_free (use := some (assign (.Name y py) env)) (Q := fun _ s' => Q .next s') rfl hs hclos hkind hnames
    (wpAny_mono h (fun xv s₁ h₁ => wpAny_mono h₁ (fun it s₂ h₂ => ?_) fun _ _ e => e) fun _ _ e => e)) (fun _ s' hq => wpAny_pure (wpAny_pure hq)) fun _ _ e => e)
  obtain ⟨p, Fr, I, fp, wr, n, P, St, m, rfl, W, hsz, hst, hfp, hLf, hn, hq, hQ⟩ := h₂
  refine comp_block_walkC (RR := fun acc C => compPost (model prog w) A E (some (assign (.Name y py) env)) (fun _ s' => Q .next s') acc C) W hsz p Fr hcell hkind hx hst hfp hq ?_
  intro D C h' tk m' ys vs hD hC hDC hnC hlD hplD hlen hP hF hk
  have hLC : env.locals ≠ C := by rintro rfl; obtain ⟨o, _, _, ho, _⟩ := hn; rw [hC] at ho; cases ho
  have hLD : env.locals ≠ D := by rintro rfl; obtain ⟨o, _, _, ho, _⟩ := hn; rw [hD] at ho; cases ho
  show wpAny _ A (assign (.Name y py) env (.ref D)) _ _ _
  refine wpAny_assign_Name (wpAny_storeName_local hy (hn.at' fun o e => hk _ o hLf e) (fun h₂ hn₂ hs₂ => ?_) hp)
  refine ⟨m', hnC.sameBut hs₂ (Ne.symm hLC), fun h₃ hs₃ => ?_⟩
  exact hQ D h₃ _ ys vs hD ((hlD.extBut hs₂.extBut (Ne.symm hLD)).extBut hs₃.extBut hDC) ((hplD.extBut hs₂.extBut (Ne.symm hLD)).extBut hs₃.extBut hDC) hlen hP hF (hn₂.sameBut hs₃ hLC) fun b o hbL hbf e =>
    hs₃.extBut b o (by rintro rfl; rw [hC] at e; cases e) (hs₂.extBut b o hbL (hk b o hbf e))

/-- the heart of a comprehension: what holds at the iterator -/
theorem comp_quiet {env : Env} {sc : Scope} {y : PySem.Str} {elt : X} {el : Expr} {W : AddrSet} {s₁ s₂ : Shared} {I : Addr} {l r : List D} {P : Nat → Value → Prop}
    (he : EnvOk env) (hs : ScOk sc env.scope y)
    (ihe : ∀ C dv, EvOk prog w A h₀ names F σ (compEnvC sc (clOf env sc.names []) C env) (some (y, dv)) elt el)
    (hr : compL (fun d => evE F σ (some d) elt) l = some r) (hi : EInv h₀ names env none W σ s₁.heap) (hI : I = s₁.heap.objs.size) (k : ∀ a o, s₁.heap.get? a = some o → s₂.heap.get? a = some o)
    (hP : ∀ i u, P i u → ∃ d, l[i]? = some d ∧ Rep W s₁.heap d u) :
    QuietOnC prog w A env sc (clOf env sc.names []) y [] el [I] P (fun _ => true) (fun v u => ∃ dv dy, Rep W s₁.heap dv v ∧ evE F σ (some dv) elt = some dy ∧ scalar dy = true ∧ Rep W s₁.heap dy u) s₂ where
  tests := fun C i v s₃ m₃ E' _ _ _ _ _ _ => by
    rw [List.forIn_nil]
    exact wpAny_pure ⟨rfl, keeps_refl _⟩
  elt := fun C i v s₃ m₃ E' hC hp _ hn hm hk _ => by
    obtain ⟨dv, hdv, rv⟩ := hP i v hp
    obtain ⟨dy, hdy, hsc⟩ := compL_get hr hdv
    have k₃ : ∀ a o, s₁.heap.get? a = some o → s₃.heap.get? a = some o := fun a o e => hk a o (fun hmem => by
      rw [List.mem_singleton, hI] at hmem
      rw [hmem] at e
      exact absurd (Heap.lt_size e) (Nat.lt_irrefl _)) (k a o e)
    have inv := inv_comp he hs hi k₃ hn hm (rv.keeps k₃)
    refine wpAny_mono (ihe C dv W s₃ dy (fun u s₄ => (∃ dv dy, Rep W s₁.heap dv v ∧ evE F σ (some dv) elt = some dy ∧ scalar dy = true ∧ Rep W s₁.heap dy u) ∧ Keeps s₃ s₄) hdy inv fun u s₄ k₄ ru => ⟨⟨dv, dy, rv, hdy, hsc, rep_scalar hsc ru⟩, k₄⟩) (fun _ _ q => q) fun _ _ q => q.elim

theorem comp_ok {env : Env} {sc : Scope} {y : PySem.Str} {py pos : Pos} {elt src : X} {el it : Expr} {W : AddrSet} {s : Shared} {Q : Value → Shared → Prop} {d : D}
    (hh : A.handled = none) (he : EnvOk env) (hs : ScOk sc env.scope y) (hset : ∀ x, foldedSetIterable it env x = pure x)
    (ihs : EvOk prog w A h₀ names F σ env none src it)
    (ihe : ∀ C dv, EvOk prog w A h₀ names F σ (compEnvC sc (clOf env sc.names []) C env) (some (y, dv)) elt el)
    (hd : evE F σ none (.comp elt src) = some d) (hi : EInv h₀ names env none W σ s.heap)
    (h : ∀ v s', Keeps s s' → Rep W s'.heap d v → Q v s') :
    wpAny (model prog w) A (eval (.ListComp el [⟨.Name y py, it, [], 0⟩] sc pos) env) Q (fun _ _ => False) s := by
  unfold evE at hd
  simp only at hd
  split at hd
  · rename_i x hx
    split at hd
    · rename_i l hl
      split at hd
      · rename_i r hr
        cases hd
        refine ListComp_in (cl := clOf env sc.names []) (closureFor_clOf fun x hx e => he.cells _ (hs.frees x hx e)) hs.nocell hs.kind hs.locs hs.var ?_ hset
        refine ihs W s x _ hx hi fun v s₁ k₁ r₁ => ?_
        have hi₁ := hi.keeps (Keeps.get k₁)
        refine iter_ok hh hi₁.wok r₁ hl fun o P St fp hW hsz hfp hst hP _ _ => ?_
        have kp : ∀ a o', s₁.heap.get? a = some o' → (s₁.heap.push o).get? a = some o' := fun _ _ e => Heap.get?_push_of_some _ e
        refine ⟨fun _ => true, _, _, fp, [s₁.heap.objs.size], l.length, P, St, rfl, hW, by rw [← big_line]; exact hsz, hst, ?_, comp_quiet he hs ihe hr hi₁ rfl kp hP, ?_⟩
        · intro b hb
          show b < (s₁.heap.push o).objs.size
          rw [Heap.size_push]
          rcases hfp b hb with rfl | ⟨_, o', ho'⟩
          · exact Nat.lt_succ_self _
          · exact Nat.lt_succ_of_lt (Heap.lt_size ho')
        · intro D h' tk ys vs hD _ hpl hlen hPv hF hk
          have keep : ∀ a o', s₁.heap.get? a = some o' → h'.get? a = some o' := fun a o' e => hk a o' (fun hmem => by
            rw [List.mem_singleton] at hmem
            rw [hmem] at e
            exact absurd (Heap.lt_size e) (Nat.lt_irrefl _)) (kp a o' e)
          refine h _ _ (keeps_trans k₁ ⟨h', tk, rfl, keep⟩) ?_
          unfold Rep
          refine ⟨D, ys.toList, rfl, fun hw => ?_, by simpa using hpl, ?_⟩
          · obtain ⟨o', ho'⟩ := hi₁.wok D hw
            have := kp _ _ ho'
            rw [this] at hD
            cases hD
          · have hfil : vs.filter (fun _ => true) = vs := List.filter_eq_self.mpr fun _ _ => rfl
            rw [hfil] at hF
            exact compL_rep (fun _ _ q => q) hr (repL_of_places hlen fun j v hj => hP j v (hPv j v hj)) hF
      · cases hd
    · cases hd
  · cases hd
end
end Mine

namespace Mine
open PySem PySem.W PySem.Calls PyProof.Rows PySem.SeqAt

section
variable {prog : Program} {w : World} {A : Around} {h₀ : Heap} {names fn : List PySem.Str} {F : FTab} {σ : List Slot}

theorem filtL_get {t : D → Option D} : ∀ {l r : List D}, filtL t l = some r → ∀ {i : Nat} {d : D}, l[i]? = some d → ∃ b, t d = some (.bool b)
  | [], r, h, i, d, e => by simp at e
  | a :: l, r, h, i, d, e => by
    unfold filtL at h
    split at h
    · rename_i ht
      split at h
      · rename_i l' hl
        cases i with
        | zero => simp at e; subst e; exact ⟨_, ht⟩
        | succ i => exact filtL_get hl (by simpa using e)
      · cases h
    · rename_i ht
      cases i with
      | zero => simp at e; subst e; exact ⟨_, ht⟩
      | succ i => exact filtL_get h (by simpa using e)
    · cases h

theorem filtL_rep {W : AddrSet} {h : Heap} {t : D → Option D} {p : Value → Bool} (hp : ∀ d v b, Rep W h d v → t d = some (.bool b) → p v = b) :
    ∀ {l r : List D} {vs ys : List Value}, filtL t l = some r → RepL W h l vs → Paired (fun v u => u = v) (vs.filter p) ys → RepL W h r ys
  | [], r, vs, ys, hc, hl, hq => by
    rw [hl.invNil] at hq
    simp only [List.filter_nil] at hq
    cases hq
    simp [filtL] at hc
    subst hc
    exact RepL.nil
  | d :: l, r, vs, ys, hc, hl, hq => by
    obtain ⟨v, vs', rfl, a, b⟩ := hl.inv
    unfold filtL at hc
    split at hc
    · rename_i ht
      split at hc
      · rename_i l' hl'
        cases hc
        rw [List.filter_cons_of_pos (hp d v true a ht)] at hq
        cases hq with
        | cons h1 h2 =>
          subst h1
          exact RepL.cons a (filtL_rep hp hl' b h2)
      · cases hc
    · rename_i ht
      rw [List.filter_cons_of_neg (by rw [hp d v false a ht]; exact Bool.false_ne_true)] at hq
      exact filtL_rep hp hc b hq
    · cases hc

open Classical in
theorem filt_ok {env : Env} {sc : Scope} {y : PySem.Str} {pz py pos : Pos} {src test : X} {it te : Expr} {W : AddrSet} {s : Shared} {Q : Value → Shared → Prop} {d : D}
    (hh : A.handled = none) (he : EnvOk env) (hs : ScOk sc env.scope y) (hset : ∀ x, foldedSetIterable it env x = pure x) (hdb : (y == ("__debug__" : PySem.Str)) = false)
    (ihs : EvOk prog w A h₀ names F σ env none src it)
    (iht : ∀ C dv, TrOk prog w A h₀ names F σ (compEnvC sc (clOf env sc.names []) C env) (some (y, dv)) test te)
    (hd : evE F σ none (.filt src test) = some d) (hi : EInv h₀ names env none W σ s.heap)
    (h : ∀ v s', Keeps s s' → Rep W s'.heap d v → Q v s') :
    wpAny (model prog w) A (eval (.ListComp (.Name y pz) [⟨.Name y py, it, [te], 0⟩] sc pos) env) Q (fun _ _ => False) s := by
  unfold evE at hd
  simp only at hd
  split at hd
  · rename_i x hx
    split at hd
    · rename_i l hl
      split at hd
      · rename_i r hr
        cases hd
        refine ListComp_in (cl := clOf env sc.names []) (closureFor_clOf fun x hx e => he.cells _ (hs.frees x hx e)) hs.nocell hs.kind hs.locs hs.var ?_ hset
        refine ihs W s x _ hx hi fun v s₁ k₁ r₁ => ?_
        have hi₁ := hi.keeps (Keeps.get k₁)
        refine iter_ok hh hi₁.wok r₁ hl fun o P St fp hW hsz hfp hst hP _ _ => ?_
        have kp : ∀ a o', s₁.heap.get? a = some o' → (s₁.heap.push o).get? a = some o' := fun _ _ e => Heap.get?_push_of_some _ e
        have hpz : ∀ d v b, Rep W s₁.heap d v → evE F σ (some d) test = some (.bool b) → (decide (∃ d, Rep W s₁.heap d v ∧ evE F σ (some d) test = some (.bool true))) = b := by
          intro d v b rd ht
          cases b with
          | true => exact decide_eq_true ⟨d, rd, ht⟩
          | false =>
            refine decide_eq_false ?_
            rintro ⟨d', rd', ht'⟩
            have := Rep.uniq d d' v rd rd'
            subst this
            rw [ht] at ht'
            cases ht'
        refine ⟨fun v => decide (∃ d, Rep W s₁.heap d v ∧ evE F σ (some d) test = some (.bool true)), fun v u => u = v, _, fp, [s₁.heap.objs.size], l.length, P, St, rfl, hW, by rw [← big_line]; exact hsz, hst, ?_, ⟨?_, ?_⟩, ?_⟩
        · intro b hb
          show b < (s₁.heap.push o).objs.size
          rw [Heap.size_push]
          rcases hfp b hb with rfl | ⟨_, o', ho'⟩
          · exact Nat.lt_succ_self _
          · exact Nat.lt_succ_of_lt (Heap.lt_size ho')
        · intro C i v s₃ m₃ E' hC hp hn hm hk _
          obtain ⟨dv, hdv, rv⟩ := hP i v hp
          obtain ⟨b, hb⟩ := filtL_get hr hdv
          have k₃ : ∀ a o, s₁.heap.get? a = some o → s₃.heap.get? a = some o := fun a o' e => hk a o' (fun hmem => by
            rw [List.mem_singleton] at hmem
            rw [hmem] at e
            exact absurd (Heap.lt_size e) (Nat.lt_irrefl _)) (kp a o' e)
          have inv := inv_comp he hs hi₁ k₃ hn hm (rv.keeps k₃)
          rw [List.forIn_cons]
          simp only [if_true]
          refine wpAny_bind (wpAny_bind (wpAny_mono (iht C dv W s₃ b (fun ok s₄ => ok = b ∧ Keeps s₃ s₄) hb inv fun s₄ k₄ => ⟨rfl, k₄⟩) (fun ok s₄ q => ?_) fun _ _ q => q.elim))
          obtain ⟨rfl, k₄⟩ := q
          refine wpAny_pure ?_
          exact wpAny_pure ⟨(hpz dv v _ rv hb).symm, k₄⟩
        · intro C i v s₃ m₃ E' hC hp _ hn hm hk _
          refine wpAny_Name (wpAny_loadName_local (v := v) hs.kind (lookup_relabel_local hs.var) hn hm ⟨rfl, keeps_refl _⟩) hdb
        · intro D h' tk ys vs hD _ hpl hlen hPv hF hk
          have keep : ∀ a o', s₁.heap.get? a = some o' → h'.get? a = some o' := fun a o' e => hk a o' (fun hmem => by
            rw [List.mem_singleton] at hmem
            rw [hmem] at e
            exact absurd (Heap.lt_size e) (Nat.lt_irrefl _)) (kp a o' e)
          refine h _ _ (keeps_trans k₁ ⟨h', tk, rfl, keep⟩) ?_
          unfold Rep
          refine ⟨D, ys.toList, rfl, fun hw => ?_, by simpa using hpl, ?_⟩
          · obtain ⟨o', ho'⟩ := hi₁.wok D hw
            have := kp _ _ ho'
            rw [this] at hD
            cases hD
          · exact (filtL_rep hpz hr (repL_of_places hlen fun j v hj => hP j v (hPv j v hj)) hF).keeps keep
      · cases hd
    · cases hd
  · cases hd

/-! the main rule -/
/-- what a call of the text's own function does -/
noncomputable def CallOk (prog : Program) (w : World) (A : Around) (h₀ : Heap) (f : Addr) (ds : List D) (d : D) : Prop :=
  ∀ (W : AddrSet) (s : Shared) (vs : List Value) (Q : Value → Shared → Prop), (∀ b o, h₀.get? b = some o → s.heap.get? b = some o) → WOk W s.heap → RepL W s.heap ds vs →
    (∀ v s', Keeps s s' → Rep W s'.heap d v → Q v s') → wpAny (model prog w) A (call (.ref f) vs) Q (fun _ _ => False) s

theorem tr_of_ev {env : Env} {cv : Option (PySem.Str × D)} {x : X} {e : Expr} (h : EvOk prog w A h₀ names F σ env cv x e)
    (heq : isTrue e env (eval e env) = (eval e env >>= fun v => standAt e.pos >>= fun _ => holding [v] (truthy v))) : TrOk prog w A h₀ names F σ env cv x e := by
  intro W s b Q hd hi hq
  rw [heq]
  refine wpAny_bind (h W s _ _ hd hi fun v s' k r => ?_)
  unfold Rep at r
  subst r
  exact wpAny_bind (wpAny_standAt (wpAny_holding (wpAny_truthy_bool (hq s' k))))

inductive Both (P : X → Expr → Prop) : List X → List Expr → Prop
  | nil : Both P [] []
  | cons {x xs e es} : P x e → Both P xs es → Both P (x :: xs) (e :: es)

theorem notStarred {x : X} {sc : Scope} {cv : Option PySem.Str} {e : Expr} (h : chkE names fn x sc cv e = true) : (∀ a p, e ≠ .Starred a p) ∧ (∀ l u st p, e ≠ .Slice l u st p) ∧ (∀ l k p, e ≠ .Set l k p) := by
  refine ⟨?_, ?_, ?_⟩ <;> (intros; rintro rfl; cases x <;> exact falseNot h)

theorem folded_plain {e : Expr} {env : Env} (h : ∀ l k p, e ≠ .Set l k p) (x : Value) : foldedSetIterable e env x = pure x := by
  unfold foldedSetIterable
  cases e <;> first | rfl | exact absurd rfl (h _ _ _)

theorem subscripted_plain {e : Expr} {o i : Value} (h : ∀ l u st p, e ≠ .Slice l u st p) : subscripted e false o i = operate [o, i] (getItem o i) := by
  unfold subscripted
  cases e <;> first | rfl | exact absurd rfl (h _ _ _ _)
end
end Mine

namespace Mine
open PySem PySem.W PySem.Calls PyProof.Rows PySem.SeqAt

section
variable {prog : Program} {w : World} {A : Around} {h₀ : Heap} {mg mb : PySem.Str → Option Value} {fa : Nat → Addr} {names fn : List PySem.Str} {F : FTab} {σ : List Slot}

structure Good (prog : Program) (w : World) (A : Around) (h₀ : Heap) (names : List PySem.Str) (F : FTab) (σ : List Slot) (env : Env) (cv : Option (PySem.Str × D)) (x : X) (e : Expr) : Prop where
  ev : EvOk prog w A h₀ names F σ env cv x e
  tr : TrOk prog w A h₀ names F σ env cv x e
  star : ∀ a p, e ≠ .Starred a p
  set : ∀ l k p, e ≠ .Set l k p

noncomputable abbrev Goods (prog : Program) (w : World) (A : Around) (h₀ : Heap) (names : List PySem.Str) (F : FTab) (σ : List Slot) (env : Env) (cv : Option (PySem.Str × D)) (xs : List X) (es : List Expr) : Prop :=
  Both (Good prog w A h₀ names F σ env cv) xs es

theorem starEach_cons {e : Expr} {r : List Expr} {env : Env} (h : ∀ a p, e ≠ .Starred a p) : starEach (e :: r) env = (false, eval e env) :: starEach r env := by
  cases e <;> first | rfl | exact absurd rfl (h _ _)

theorem backTo_cons {pos : Pos} {t : Sem Value} {r : List (Bool × Sem Value)} : backTo pos ((false, t) :: r) = (false, t) :: backTo pos r := rfl

theorem plain_args {env : Env} {cv : Option (PySem.Str × D)} {xs : List X} {es : List Expr} (g : Goods prog w A h₀ names F σ env cv xs es) (pos : Pos) : (backTo pos (starEach es env)).any (·.1) = false := by
  induction g with
  | nil => rfl
  | cons p _ ih => rw [starEach_cons p.star, backTo_cons, List.any_cons, ih]; rfl

theorem spliced_ok {env : Env} {cv : Option (PySem.Str × D)} {xs : List X} {es : List Expr} {pos : Pos} {W : AddrSet} (g : Goods prog w A h₀ names F σ env cv xs es) :
    ∀ {s : Shared} {ds : List D} {Q : List Value → Shared → Prop}, seqO (evEs F σ (cv.map (·.2)) xs) = some ds → EInv h₀ names env cv W σ s.heap →
    (∀ vs s', Keeps s s' → RepL W s'.heap ds vs → Q vs s') → wpAny (model prog w) A (spliced (backTo pos (starEach es env))) Q (fun _ _ => False) s := by
  induction g with
  | nil =>
    intro s ds Q hd hi h
    simp [evEs, seqO] at hd
    subst hd
    exact spliced_nil (h _ _ (keeps_refl _) RepL.nil)
  | @cons x xs e es p gs ih =>
    intro s ds Q hd hi h
    rw [starEach_cons p.star, backTo_cons]
    rw [evEs] at hd
    unfold seqO at hd
    split at hd
    · rename_i heq; cases heq
    · rename_i d r heq
      injection heq with h1 h2
      subst h2
      split at hd
      · rename_i l hl
        cases hd
        refine spliced_cons (p.ev W s d _ h1 hi fun v s₁ k₁ r₁ => ih hl (hi.keeps (Keeps.get k₁)) fun vs s₂ k₂ r₂ => ?_)
        exact h _ _ (keeps_trans k₁ k₂) (RepL.cons (r₁.keeps (Keeps.get k₂)) r₂)
      · cases hd
    · cases hd

theorem evalArgs_ok {env : Env} {cv : Option (PySem.Str × D)} {xs : List X} {es : List Expr} {pos : Pos} {W : AddrSet} {f : Value} (g : Goods prog w A h₀ names F σ env cv xs es)
    {s : Shared} {ds : List D} {Q : Args → Shared → Prop} (hd : seqO (evEs F σ (cv.map (·.2)) xs) = some ds) (hi : EInv h₀ names env cv W σ s.heap)
    (h : ∀ vs s', Keeps s s' → RepL W s'.heap ds vs → Q ⟨vs, []⟩ s') : wpAny (model prog w) A (evalArgs f true (backTo pos (starEach es env)) []) Q (fun _ _ => False) s := by
  cases g with
  | nil =>
    simp [evEs, seqO] at hd
    subst hd
    exact PySem.evalArgs_none (h _ _ (keeps_refl _) RepL.nil)
  | @cons x xs e es p gs =>
    have := spliced_ok (pos := pos) (Both.cons p gs) (Q := fun vs s' => Q ⟨vs, []⟩ s') hd hi h
    rw [starEach_cons p.star, backTo_cons] at this ⊢
    exact evalArgs_plain this

theorem lastMarks_ok {env : Env} {cv : Option (PySem.Str × D)} {xs : List X} {es : List Expr} (g : Goods prog w A h₀ names F σ env cv xs es) : ∀ os, lastMarks os es = false := by
  induction g with
  | nil => intro os; cases os with
    | nil => rfl
    | cons a r => cases r <;> rfl
  | @cons x xs e es p gs ih =>
    intro os
    cases os with
    | nil => rfl
    | cons o os =>
      have hb : behindInMarks o e = false := by
        unfold behindInMarks
        cases e <;> first | rfl | exact absurd rfl (p.set _ _ _)
      cases os with
      | nil =>
        cases es with
        | nil => simpa [lastMarks] using hb
        | cons e' es' => simpa [lastMarks] using ih []
      | cons o' os' =>
        simpa [lastMarks] using ih (o' :: os')

theorem compare_ok {k : Nat} (hA : Room A k) {env : Env} {cv : Option (PySem.Str × D)} {W : AddrSet} {pos : Pos} {xs : List X} {es : List Expr} (g : Goods prog w A h₀ names F σ env cv xs es) :
    ∀ {ops : List COp} {os : List CmpOp} {d : D} {v : Value} {s : Shared} {b : Bool} {Q : Value → Shared → Prop}, copsIs ops os = true → chain d ops (evEs F σ (cv.map (·.2)) xs) = some b →
      EInv h₀ names env cv W σ s.heap → Rep W s.heap d v → (∀ s', Keeps s s' → Q (.bool b) s') → wpAny (model prog w) A (compareChain pos v os (evalEach es env)) Q (fun _ _ => False) s := by
  induction g with
  | nil =>
    intro ops os d v s b Q ho hc
    exfalso
    cases ops with
    | nil => simp [chain, evEs] at hc
    | cons o r => cases r <;> simp [chain, evEs] at hc
  | @cons x xs e es p gs ih =>
    intro ops os d v s b Q ho hc hi hr h
    cases ops with
    | nil => simp [chain] at hc
    | cons op ops =>
      cases os with
      | nil => simp [copsIs] at ho
      | cons o os =>
        simp only [copsIs, Bool.and_eq_true] at ho
        cases gs with
        | nil =>
          cases ops with
          | nil =>
            cases os with
            | cons _ _ => simp [copsIs] at ho
            | nil =>
              simp only [evEs, chain] at hc
              split at hc
              · rename_i d' hd'
                refine chain_last (p.ev W s d' _ hd' hi fun v' s₁ k₁ r₁ => ?_)
                exact cmp_ok hA ho.1 (hr.keeps (Keeps.get k₁)) r₁ hc fun s₂ k₂ => h _ (keeps_trans k₁ k₂)
              · cases hc
          | cons op' ops' => simp [evEs, chain] at hc
        | @cons x' xs' e' es' p' gs' =>
          cases ops with
          | nil => simp [evEs, chain] at hc
          | cons op' ops' =>
            cases os with
            | nil => simp [copsIs] at ho
            | cons o' os' =>
              simp only [evEs, chain] at hc
              split at hc
              · rename_i d' hd'
                rw [evalEach, evalEach]
                refine chain_link (p.ev W s d' _ hd' hi fun v' s₁ k₁ r₁ => ?_)
                split at hc
                · rename_i hcmp
                  refine cmp_ok hA ho.1 (hr.keeps (Keeps.get k₁)) r₁ hcmp fun s₂ k₂ => wpAny_truthy_bool ?_
                  simp only [if_true]
                  refine ih ho.2 ?_ (hi.keeps (Keeps.get (keeps_trans k₁ k₂))) (r₁.keeps (Keeps.get k₂)) fun s₃ k₃ => h _ (keeps_trans (keeps_trans k₁ k₂) k₃)
                  rw [evEs]
                  exact hc
                · rename_i hcmp
                  cases hc
                  refine cmp_ok hA ho.1 (hr.keeps (Keeps.get k₁)) r₁ hcmp fun s₂ k₂ => wpAny_truthy_bool ?_
                  simp only [Bool.false_eq_true, if_false]
                  exact h _ (keeps_trans k₁ k₂)
                · cases hc
              · cases hc

theorem test_ok {k : Nat} (hA : Room A k) {env : Env} {cv : Option (PySem.Str × D)} {W : AddrSet} {pos : Pos} {xs : List X} {es : List Expr} (g : Goods prog w A h₀ names F σ env cv xs es) :
    ∀ {ops : List COp} {os : List CmpOp} {d : D} {v : Value} {s : Shared} {b : Bool} {Q : Bool → Shared → Prop}, copsIs ops os = true → chain d ops (evEs F σ (cv.map (·.2)) xs) = some b →
      EInv h₀ names env cv W σ s.heap → Rep W s.heap d v → (∀ s', Keeps s s' → Q b s') → wpAny (model prog w) A (testChain pos v os (evalEach es env)) Q (fun _ _ => False) s := by
  induction g with
  | nil =>
    intro ops os d v s b Q ho hc
    exfalso
    cases ops with
    | nil => simp [chain, evEs] at hc
    | cons o r => cases r <;> simp [chain, evEs] at hc
  | @cons x xs e es p gs ih =>
    intro ops os d v s b Q ho hc hi hr h
    cases ops with
    | nil => simp [chain] at hc
    | cons op ops =>
      cases os with
      | nil => simp [copsIs] at ho
      | cons o os =>
        simp only [copsIs, Bool.and_eq_true] at ho
        cases gs with
        | nil =>
          cases ops with
          | nil =>
            cases os with
            | cons _ _ => simp [copsIs] at ho
            | nil =>
              simp only [evEs, chain] at hc
              split at hc
              · rename_i d' hd'
                refine test_last (p.ev W s d' _ hd' hi fun v' s₁ k₁ r₁ => ?_)
                exact cmp_ok hA ho.1 (hr.keeps (Keeps.get k₁)) r₁ hc fun s₂ k₂ => wpAny_truthy_bool (h _ (keeps_trans k₁ k₂))
              · cases hc
          | cons op' ops' => simp [evEs, chain] at hc
        | @cons x' xs' e' es' p' gs' =>
          cases ops with
          | nil => simp [evEs, chain] at hc
          | cons op' ops' =>
            cases os with
            | nil => simp [copsIs] at ho
            | cons o' os' =>
              simp only [evEs, chain] at hc
              split at hc
              · rename_i d' hd'
                rw [evalEach, evalEach]
                refine test_link (p.ev W s d' _ hd' hi fun v' s₁ k₁ r₁ => ?_)
                split at hc
                · rename_i hcmp
                  refine cmp_ok hA ho.1 (hr.keeps (Keeps.get k₁)) r₁ hcmp fun s₂ k₂ => wpAny_truthy_bool ?_
                  simp only [if_true]
                  refine ih ho.2 ?_ (hi.keeps (Keeps.get (keeps_trans k₁ k₂))) (r₁.keeps (Keeps.get k₂)) fun s₃ k₃ => h _ (keeps_trans (keeps_trans k₁ k₂) k₃)
                  rw [evEs]
                  exact hc
                · rename_i hcmp
                  cases hc
                  refine cmp_ok hA ho.1 (hr.keeps (Keeps.get k₁)) r₁ hcmp fun s₂ k₂ => wpAny_truthy_bool ?_
                  simp only [Bool.false_eq_true, if_false]
                  exact h _ (keeps_trans k₁ k₂)
                · cases hc
              · cases hc

/-! and, or -/
theorem andV_ok {env : Env} {cv : Option (PySem.Str × D)} {W : AddrSet} {pos : Pos} {xs : List X} {es : List Expr} (g : Goods prog w A h₀ names F σ env cv xs es) :
    ∀ {s : Shared} {b : Bool} {Q : Value → Shared → Prop}, allB (evEs F σ (cv.map (·.2)) xs) = some b → EInv h₀ names env cv W σ s.heap → (∀ s', Keeps s s' → Q (.bool b) s') →
      wpAny (model prog w) A (boolOp pos .And (evalEach es env)) Q (fun _ _ => False) s := by
  induction g with
  | nil => intro s b Q hb; simp [evEs, allB] at hb
  | @cons x xs e es p gs ih =>
    intro s b Q hb hi h
    cases gs with
    | nil =>
      simp only [evEs, allB] at hb
      split at hb
      · rename_i hd
        cases hb
        refine p.ev W s _ _ hd hi fun v s₁ k₁ r₁ => ?_
        unfold Rep at r₁
        subst r₁
        exact h _ k₁
      · cases hb
    | @cons x' xs' e' es' p' gs' =>
      simp only [evEs, allB] at hb
      rw [evalEach, evalEach]
      show wpAny _ A (eval e env >>= _) Q _ s
      split at hb
      · rename_i hd
        refine wpAny_bind (p.ev W s _ _ hd hi fun v s₁ k₁ r₁ => ?_)
        unfold Rep at r₁
        subst r₁
        refine wpAny_bind (wpAny_standAt (wpAny_bind (wpAny_holding (wpAny_truthy_bool ?_))))
        refine ih ?_ (hi.keeps (Keeps.get k₁)) fun s₂ k₂ => h _ (keeps_trans k₁ k₂)
        rw [evEs]
        exact hb
      · rename_i hd
        cases hb
        refine wpAny_bind (p.ev W s _ _ hd hi fun v s₁ k₁ r₁ => ?_)
        unfold Rep at r₁
        subst r₁
        refine wpAny_bind (wpAny_standAt (wpAny_bind (wpAny_holding (wpAny_truthy_bool ?_))))
        exact wpAny_pure (h _ k₁)
      · cases hb

theorem orV_ok {env : Env} {cv : Option (PySem.Str × D)} {W : AddrSet} {pos : Pos} {xs : List X} {es : List Expr} (g : Goods prog w A h₀ names F σ env cv xs es) :
    ∀ {s : Shared} {b : Bool} {Q : Value → Shared → Prop}, anyB' (evEs F σ (cv.map (·.2)) xs) = some b → EInv h₀ names env cv W σ s.heap → (∀ s', Keeps s s' → Q (.bool b) s') →
      wpAny (model prog w) A (boolOp pos .Or (evalEach es env)) Q (fun _ _ => False) s := by
  induction g with
  | nil => intro s b Q hb; simp [evEs, anyB'] at hb
  | @cons x xs e es p gs ih =>
    intro s b Q hb hi h
    cases gs with
    | nil =>
      simp only [evEs, anyB'] at hb
      split at hb
      · rename_i hd
        cases hb
        refine p.ev W s _ _ hd hi fun v s₁ k₁ r₁ => ?_
        unfold Rep at r₁
        subst r₁
        exact h _ k₁
      · cases hb
    | @cons x' xs' e' es' p' gs' =>
      simp only [evEs, anyB'] at hb
      rw [evalEach, evalEach]
      show wpAny _ A (eval e env >>= _) Q _ s
      split at hb
      · rename_i hd
        refine wpAny_bind (p.ev W s _ _ hd hi fun v s₁ k₁ r₁ => ?_)
        unfold Rep at r₁
        subst r₁
        refine wpAny_bind (wpAny_standAt (wpAny_bind (wpAny_holding (wpAny_truthy_bool ?_))))
        refine ih ?_ (hi.keeps (Keeps.get k₁)) fun s₂ k₂ => h _ (keeps_trans k₁ k₂)
        rw [evEs]
        exact hb
      · rename_i hd
        cases hb
        refine wpAny_bind (p.ev W s _ _ hd hi fun v s₁ k₁ r₁ => ?_)
        unfold Rep at r₁
        subst r₁
        refine wpAny_bind (wpAny_standAt (wpAny_bind (wpAny_holding (wpAny_truthy_bool ?_))))
        exact wpAny_pure (h _ k₁)
      · cases hb

theorem andT_ok {env : Env} {cv : Option (PySem.Str × D)} {W : AddrSet} {xs : List X} {es : List Expr} (g : Goods prog w A h₀ names F σ env cv xs es) :
    ∀ {s : Shared} {b : Bool} {Q : Bool → Shared → Prop}, allB (evEs F σ (cv.map (·.2)) xs) = some b → EInv h₀ names env cv W σ s.heap → (∀ s', Keeps s s' → Q b s') →
      wpAny (model prog w) A (allTrue .And es env) Q (fun _ _ => False) s := by
  induction g with
  | nil => intro s b Q hb; simp [evEs, allB] at hb
  | @cons x xs e es p gs ih =>
    intro s b Q hb hi h
    show wpAny _ A (PySem.isTrue e env (eval e env) >>= _) Q _ s
    cases gs with
    | nil =>
      simp only [evEs, allB] at hb
      split at hb
      · rename_i b' hd
        cases hb
        refine wpAny_bind (p.tr W s _ _ hd hi fun s₁ k₁ => ?_)
        cases b with
        | true => exact wpAny_pure (h _ k₁)
        | false => exact wpAny_pure (h _ k₁)
      · cases hb
    | @cons x' xs' e' es' p' gs' =>
      simp only [evEs, allB] at hb
      split at hb
      · rename_i hd
        refine wpAny_bind (p.tr W s _ _ hd hi fun s₁ k₁ => ?_)
        refine ih ?_ (hi.keeps (Keeps.get k₁)) fun s₂ k₂ => h _ (keeps_trans k₁ k₂)
        rw [evEs]
        exact hb
      · rename_i hd
        cases hb
        refine wpAny_bind (p.tr W s _ _ hd hi fun s₁ k₁ => ?_)
        exact wpAny_pure (h _ k₁)
      · cases hb

theorem orT_ok {env : Env} {cv : Option (PySem.Str × D)} {W : AddrSet} {xs : List X} {es : List Expr} (g : Goods prog w A h₀ names F σ env cv xs es) :
    ∀ {s : Shared} {b : Bool} {Q : Bool → Shared → Prop}, anyB' (evEs F σ (cv.map (·.2)) xs) = some b → EInv h₀ names env cv W σ s.heap → (∀ s', Keeps s s' → Q b s') →
      wpAny (model prog w) A (allTrue .Or es env) Q (fun _ _ => False) s := by
  induction g with
  | nil => intro s b Q hb; simp [evEs, anyB'] at hb
  | @cons x xs e es p gs ih =>
    intro s b Q hb hi h
    show wpAny _ A (PySem.isTrue e env (eval e env) >>= _) Q _ s
    cases gs with
    | nil =>
      simp only [evEs, anyB'] at hb
      split at hb
      · rename_i b' hd
        cases hb
        refine wpAny_bind (p.tr W s _ _ hd hi fun s₁ k₁ => ?_)
        cases b with
        | true => exact wpAny_pure (h _ k₁)
        | false => exact wpAny_pure (h _ k₁)
      · cases hb
    | @cons x' xs' e' es' p' gs' =>
      simp only [evEs, anyB'] at hb
      split at hb
      · rename_i hd
        refine wpAny_bind (p.tr W s _ _ hd hi fun s₁ k₁ => ?_)
        refine ih ?_ (hi.keeps (Keeps.get k₁)) fun s₂ k₂ => h _ (keeps_trans k₁ k₂)
        rw [evEs]
        exact hb
      · rename_i hd
        cases hb
        refine wpAny_bind (p.tr W s _ _ hd hi fun s₁ k₁ => ?_)
        exact wpAny_pure (h _ k₁)
      · cases hb
end
end Mine

namespace Mine
open PySem PySem.W PySem.Calls PyProof.Rows PySem.SeqAt

section
variable {prog : Program} {w : World} {A : Around} {h₀ : Heap} {mg mb : PySem.Str → Option Value} {fa : Nat → Addr} {names fn : List PySem.Str} {F : FTab} {σ : List Slot} {k : Nat}

theorem Call_name {env : Env} {g : PySem.Str} {p pos : Pos} {es : List Expr} : eval (.Call (.Name g p) es [] pos) env = (eval (.Name g p) env >>= fun f => callWith pos f [] (backTo pos (starEach es env)) []) := rfl

theorem globName_ok {env : Env} {W : AddrSet} {cv : Option (PySem.Str × D)} {g : PySem.Str} {p : Pos} {f : Addr} {s : Shared} {Q : Value → Shared → Prop} (G : Gl h₀ mg mb fn fa) (he : EnvOk env) (hi : EInv h₀ names env cv W σ s.heap)
    (hk : env.scope.names.lookup g = some .globalImplicit) (hdb : (g == debugS) = false) (hv : mg g = some (.ref f)) (h : Q (.ref f) s) : wpAny (model prog w) A (eval (.Name g p) env) Q (fun _ _ => False) s :=
  Name_function_global he.kind hk (loadGlobal_global (mg := mg) (he.glob ▸ G.g.keeps hi.base) hv h) hdb
theorem primName_ok {env : Env} {W : AddrSet} {cv : Option (PySem.Str × D)} {q : Prim} {p : Pos} {s : Shared} {Q : Value → Shared → Prop} (G : Gl h₀ mg mb fn fa) (he : EnvOk env) (hi : EInv h₀ names env cv W σ s.heap)
    (hk : env.scope.names.lookup (primName q) = some .globalImplicit) (hdb : (primName q == debugS) = false) (h : Q (primVal q) s) : wpAny (model prog w) A (eval (.Name (primName q) p) env) Q (fun _ _ => False) s :=
  Name_function_global he.kind hk (loadGlobal_builtin (mg := mg) (mb := mb) (he.glob ▸ G.g.keeps hi.base) (G.prim q) (he.blt ▸ G.b.keeps hi.base)
    ((G.bi _ (by cases q <;> decide +kernel)).trans (primBoot q)) h) hdb

theorem callWith_prim {q : Prim} {pos : Pos} {args : List (Bool × Sem Value)} {s : Shared} {Q E : Value → Shared → Prop} (hplain : args.any (·.1) = false)
    (h : wpAny (model prog w) A (evalArgs (primVal q) true args []) (fun a s₁ => wpAny (model prog w) A (call (primVal q) ([] ++ a.pos) a.kw) Q E s₁) E s) :
    wpAny (model prog w) A (callWith pos (primVal q) [] args []) Q E s := by
  cases q with
  | len => exact callWith_builtin (id := "len") hplain h
  | chr => exact callWith_builtin (id := "chr") hplain h
  | ord => exact callWith_builtin (id := "ord") hplain h
  | max => exact callWith_builtin (id := "max") hplain h
  | str => exact PySem.callWith_type (T := "str") hplain h
  | bytes => exact PySem.callWith_type (T := "bytes") hplain h
  | list => exact PySem.callWith_type (T := "list") hplain h
  | range => exact PySem.callWith_type (T := "range") hplain h

theorem isTrue_Sub {v sl : Expr} {p : Pos} {env : Env} : isTrue (.Subscript v sl p) env (eval (.Subscript v sl p) env) = (eval (.Subscript v sl p) env >>= fun v' => standAt p >>= fun _ => holding [v'] (truthy v')) := rfl

theorem isPart_int {W : AddrSet} {h : Heap} {i : Int} {v : Value} (r : Rep W h (.int i) v) : IsPart v (some i) := by
  unfold Rep at r
  obtain ⟨t, rfl⟩ := r
  exact .int i t

theorem chkE_slice {x : X} {sc : Scope} {cv : Option PySem.Str} {e : Expr} (h : chkE names fn x sc cv e = true) : ∀ l u st p, e ≠ .Slice l u st p := (notStarred h).2.1

theorem both_len {P : X → Expr → Prop} {xs : List X} {es : List Expr} (g : Both P xs es) : xs.length = es.length := by
  induction g with
  | nil => rfl
  | cons _ _ ih => simp [ih]
theorem seqO_len : ∀ {l : List (Option D)} {ds : List D}, seqO l = some ds → ds.length = l.length
  | [], ds, h => by simp [seqO] at h; subst h; rfl
  | some d :: r, ds, h => by
    simp only [seqO] at h
    split at h
    · rename_i l hl
      cases h
      simp [seqO_len hl]
    · cases h
  | none :: r, ds, h => by simp [seqO] at h
theorem evEs_len {F : FTab} {σ : List Slot} {cv : Option D} : ∀ (xs : List X), (evEs F σ cv xs).length = xs.length
  | [] => rfl
  | x :: r => by simp [evEs, evEs_len r]

mutual
theorem ev_all (G : Gl h₀ mg mb fn fa) (hA : Room A k) (hF : ∀ f ds d, F f ds = some d → CallOk prog w A h₀ (fa f) ds d) :
    ∀ (x : X) (e : Expr) (env : Env) (cv : Option (PySem.Str × D)), EnvOk env → chkE names fn x env.scope (cv.map (·.1)) e = true → Good prog w A h₀ names F σ env cv x e
  | .none, e, env, cv, he, hc => by
    refine onCon_elim hc fun c kk pos hc => ?_
    refine dec_elim hc ?_
    have ev : EvOk prog w A h₀ names F σ env cv .none (.Constant .none kk pos) := fun W s d Q hd hi h => by
      simp only [evE] at hd; cases hd
      exact wpAny_pure (h _ _ (keeps_refl _) rep_none)
    exact ⟨ev, tr_of_ev ev rfl, notStar rfl, notSet rfl⟩
  | .bool b, e, env, cv, he, hc => by
    refine onCon_elim hc fun c kk pos hc => ?_
    refine dec_elim hc ?_
    have ev : EvOk prog w A h₀ names F σ env cv (.bool b) (.Constant (.bool b) kk pos) := fun W s d Q hd hi h => by
      simp only [evE] at hd; cases hd
      exact wpAny_pure (h _ _ (keeps_refl _) (rep_bool b))
    exact ⟨ev, tr_of_ev ev rfl, notStar rfl, notSet rfl⟩
  | .int i, e, env, cv, he, hc => by
    have tr : ∀ e, TrOk prog w A h₀ names F σ env cv (.int i) e := fun e W s b Q hd => by
      simp only [evE] at hd
      cases hd
    rcases Bool.or_eq_true_iff.mp hc with hc | hc
    · refine onCon_elim hc fun c kk pos hc => dec_elim hc ?_
      refine ⟨fun W s d Q hd hi h => ?_, tr _, notStar rfl, notSet rfl⟩
      simp only [evE] at hd; cases hd
      exact wpAny_Constant_int (h _ _ (keeps_tok _) (rep_int _ _))
    · refine onUn_elim hc fun o x pos hc => dec_elim (andL hc) ?_
      refine onCon_elim (andR hc) fun c kk p2 hc => dec_elim hc ?_
      refine ⟨fun W s d Q hd hi h => ?_, tr _, notStar rfl, notSet rfl⟩
      simp only [evE] at hd; cases hd
      refine wpAny_UnaryOp (wpAny_Constant_int ?_)
      refine PyProof.Rows.neg_int (h _ _ (keeps_tok _) ?_)
      rw [Int.neg_neg]
      exact rep_int _ _
  | .str l, e, env, cv, he, hc => by
    refine onCon_elim hc fun c kk pos hc => ?_
    refine onStr_elim hc fun x hc => ?_
    obtain rfl := beq_iff_eq.mp hc
    refine ⟨fun W s d Q hd hi h => ?_, ?_, notStar rfl, notSet rfl⟩
    · simp only [evE] at hd; cases hd
      exact Constant_str (h _ _ (keeps_tok _) (rep_str' _ _))
    · intro W s b Q hd
      simp [evE] at hd
  | .bytes l, e, env, cv, he, hc => by
    refine onCon_elim hc fun c kk pos hc => ?_
    refine onBytes_elim hc fun b hc => ?_
    have hc := beq_iff_eq.mp hc
    refine ⟨fun W s d Q hd hi h => ?_, ?_, notStar rfl, notSet rfl⟩
    · simp only [evE] at hd
      split at hd
      · cases hd
        show wpAny _ A (mkTextBytes b.toArray) Q _ s
        unfold mkTextBytes
        refine wpAny_bind (wpAny_fresh (wpAny_pure (h _ _ (keeps_tok _) ?_)))
        unfold Rep
        have e1 : KBw.bInts b.toArray = l := hc
        refine ⟨fun n hn => ?_, s.toks, ?_⟩
        · rw [← e1] at hn
          exact KBw.ints_in hn
        · rw [← e1, byteArr_bInts]
      · cases hd
    · intro W s b Q hd
      simp only [evE] at hd
      split at hd <;> cases hd
  | .var i, e, env, cv, he, hc => by
    refine onName_elim hc fun y pos hc => ?_
    simp only [Bool.and_eq_true, beq_iff_eq, Bool.not_eq_true'] at hc
    obtain ⟨⟨h1, h2⟩, h3⟩ := hc
    have ev : EvOk prog w A h₀ names F σ env cv (.var i) (.Name y pos) := fun W s d Q hd hi h => by
      simp only [evE] at hd
      split at hd
      · rename_i d' hs
        cases hd
        have cellCase : env.scope.names.lookup y = some .cell → wpAny (model prog w) A (eval (.Name y pos) env) Q (fun _ _ => False) s := fun hcell => by
          obtain ⟨c, v, hcl, hv, hr⟩ := hi.cel i y _ h1 hs hcell
          exact wpAny_Name (wpAny_loadName_cell he.kind hcell hcl hv (h _ _ (keeps_refl _) hr)) h2
        cases cv with
        | none =>
          simp only [Option.map_none, Bool.or_eq_true, beq_iff_eq] at h3
          rcases h3 with h3 | h3
          · obtain ⟨m, v, hn, hm, hr⟩ := hi.loc rfl i y _ h1 hs h3
            exact wpAny_Name (wpAny_loadName_local he.kind h3 hn hm (h _ _ (keeps_refl _) hr)) h2
          · exact cellCase h3
        | some z =>
          simp only [Option.map_some, beq_iff_eq] at h3
          exact cellCase h3
      · cases hd
    exact ⟨ev, tr_of_ev ev rfl, notStar rfl, notSet rfl⟩
  | .cvar, e, env, cv, he, hc => by
    refine onName_elim hc fun y pos hc => ?_
    simp only [Bool.and_eq_true, beq_iff_eq, Bool.not_eq_true'] at hc
    obtain ⟨⟨h1, h2⟩, h3⟩ := hc
    have ev : EvOk prog w A h₀ names F σ env cv .cvar (.Name y pos) := fun W s d Q hd hi h => by
      simp only [evE] at hd
      cases cv with
      | none => cases hd
      | some z =>
        obtain ⟨y', d'⟩ := z
        simp only [Option.map_some, Option.some.injEq] at h1 hd
        subst h1 hd
        obtain ⟨m, v, hn, hm, hr⟩ := hi.cvr _ _ rfl
        exact wpAny_Name (wpAny_loadName_local he.kind h3 hn hm (h _ _ (keeps_refl _) hr)) h2
    exact ⟨ev, tr_of_ev ev rfl, notStar rfl, notSet rfl⟩
  | .bin op a b, e, env, cv, he, hc => by
    refine onBin_elim hc fun l o r pos hc => ?_
    simp only [Bool.and_eq_true] at hc
    obtain ⟨⟨h1, h2⟩, h3⟩ := hc
    have ga := ev_all G hA hF a l env cv he h2
    have gb := ev_all G hA hF b r env cv he h3
    have ev : EvOk prog w A h₀ names F σ env cv (.bin op a b) (.BinOp l o r pos) := fun W s d Q hd hi h => by
      simp only [evE] at hd
      split at hd
      · rename_i x hx
        split at hd
        · rename_i y hy
          refine wpAny_BinOp (ga.ev W s x _ hx hi fun v s₁ k₁ r₁ => ?_)
          refine gb.ev W s₁ y _ hy (hi.keeps (Keeps.get k₁)) fun v' s₂ k₂ r₂ => ?_
          have k₁₂ := keeps_trans k₁ k₂
          exact bin_ok h1 (hi.keeps (Keeps.get k₁₂)).wok (r₁.keeps (Keeps.get k₂)) r₂ hd fun v'' s₃ k₃ r₃ => h _ _ (keeps_trans k₁₂ k₃) r₃
        · cases hd
      · cases hd
    exact ⟨ev, tr_of_ev ev rfl, notStar rfl, notSet rfl⟩
  | .cmp a ops bs, e, env, cv, he, hc => by
    refine onCmp_elim hc fun l os rs pos hc => ?_
    simp only [Bool.and_eq_true] at hc
    obtain ⟨⟨h1, h2⟩, h3⟩ := hc
    have ga := ev_all G hA hF a l env cv he h2
    have gb := evs_all G hA hF bs rs env cv he h3
    refine ⟨fun W s d Q hd hi h => ?_, fun W s b Q hd hi h => ?_, notStar rfl, notSet rfl⟩
    · simp only [evE] at hd
      split at hd
      · rename_i x hx
        split at hd
        · rename_i b hb
          cases hd
          rw [arm_eval_Compare, markedEach_of_false _ _ _ (lastMarks_ok gb os)]
          refine wpAny_bind (ga.ev W s x _ hx hi fun v s₁ k₁ r₁ => ?_)
          exact compare_ok hA gb h1 hb (hi.keeps (Keeps.get k₁)) r₁ fun s₂ k₂ => h _ _ (keeps_trans k₁ k₂) (rep_bool b)
        · cases hd
      · cases hd
    · simp only [evE] at hd
      split at hd
      · rename_i x hx
        split at hd
        · rename_i b hb
          cases hd
          rw [arm_isTrue_Compare, markedEach_of_false _ _ _ (lastMarks_ok gb os)]
          refine wpAny_bind (ga.ev W s x _ hx hi fun v s₁ k₁ r₁ => ?_)
          exact test_ok hA gb h1 hb (hi.keeps (Keeps.get k₁)) r₁ fun s₂ k₂ => h _ (keeps_trans k₁ k₂)
        · cases hd
      · cases hd
  | .land l, e, env, cv, he, hc => by
    refine onBool_elim hc fun op vs pos hc => ?_
    have ho := andL hc
    have hc := andR hc
    refine dec_elim ho ?_
    have gb := evs_all G hA hF l vs env cv he hc
    refine ⟨fun W s d Q hd hi h => ?_, fun W s b Q hd hi h => ?_, notStar rfl, notSet rfl⟩
    · simp only [evE] at hd
      split at hd
      · rename_i b hb
        cases hd
        rw [arm_eval_BoolOp]
        exact andV_ok gb hb hi fun s₁ k₁ => h _ _ k₁ (rep_bool b)
      · cases hd
    · simp only [evE] at hd
      split at hd
      · rename_i b hb
        cases hd
        rw [arm_isTrue_BoolOp]
        exact andT_ok gb hb hi h
      · cases hd
  | .lor l, e, env, cv, he, hc => by
    refine onBool_elim hc fun op vs pos hc => ?_
    have ho := andL hc
    have hc := andR hc
    refine dec_elim ho ?_
    have gb := evs_all G hA hF l vs env cv he hc
    refine ⟨fun W s d Q hd hi h => ?_, fun W s b Q hd hi h => ?_, notStar rfl, notSet rfl⟩
    · simp only [evE] at hd
      split at hd
      · rename_i b hb
        cases hd
        rw [arm_eval_BoolOp]
        exact orV_ok gb hb hi fun s₁ k₁ => h _ _ k₁ (rep_bool b)
      · cases hd
    · simp only [evE] at hd
      split at hd
      · rename_i b hb
        cases hd
        rw [arm_isTrue_BoolOp]
        exact orT_ok gb hb hi h
      · cases hd
  | .ife t a b, e, env, cv, he, hc => by
    refine onIf_elim hc fun t' a' b' pos hc => ?_
    simp only [Bool.and_eq_true] at hc
    obtain ⟨⟨h1, h2⟩, h3⟩ := hc
    have gt := ev_all G hA hF t t' env cv he h1
    have ga := ev_all G hA hF a a' env cv he h2
    have gb := ev_all G hA hF b b' env cv he h3
    refine ⟨fun W s d Q hd hi h => ?_, fun W s c Q hd hi h => ?_, notStar rfl, notSet rfl⟩
    · simp only [evE] at hd
      refine wpAny_IfExp ?_
      split at hd
      · rename_i ht
        refine gt.tr W s true _ ht hi fun s₁ k₁ => ?_
        simp only [if_true]
        exact ga.ev W s₁ d _ hd (hi.keeps (Keeps.get k₁)) fun v s₂ k₂ r₂ => h _ _ (keeps_trans k₁ k₂) r₂
      · rename_i ht
        refine gt.tr W s false _ ht hi fun s₁ k₁ => ?_
        simp only [Bool.false_eq_true, if_false]
        exact gb.ev W s₁ d _ hd (hi.keeps (Keeps.get k₁)) fun v s₂ k₂ r₂ => h _ _ (keeps_trans k₁ k₂) r₂
      · cases hd
    · simp only [evE] at hd
      rw [arm_isTrue_IfExp]
      split at hd
      · rename_i ht
        refine wpAny_bind (gt.tr W s true _ ht hi fun s₁ k₁ => ?_)
        simp only [if_true]
        exact ga.tr W s₁ c _ hd (hi.keeps (Keeps.get k₁)) fun s₂ k₂ => h _ (keeps_trans k₁ k₂)
      · rename_i ht
        refine wpAny_bind (gt.tr W s false _ ht hi fun s₁ k₁ => ?_)
        simp only [Bool.false_eq_true, if_false]
        exact gb.tr W s₁ c _ hd (hi.keeps (Keeps.get k₁)) fun s₂ k₂ => h _ (keeps_trans k₁ k₂)
      · cases hd
  | .item a i, e, env, cv, he, hc => by
    refine onSub_elim hc fun v sl pos hc => ?_
    simp only [Bool.and_eq_true] at hc
    obtain ⟨h1, h2⟩ := hc
    have ga := ev_all G hA hF a v env cv he h1
    have gi := ev_all G hA hF i sl env cv he h2
    have hsl := chkE_slice h2
    have ev : EvOk prog w A h₀ names F σ env cv (.item a i) (.Subscript v sl pos) := fun W s d Q hd hi h => by
      simp only [evE] at hd
      split at hd
      · rename_i x hx
        split at hd
        · rename_i kk hk
          refine Subscript_ (ga.ev W s x _ hx hi fun va s₁ k₁ r₁ => ?_)
          refine gi.ev W s₁ _ _ hk (hi.keeps (Keeps.get k₁)) fun vi s₂ k₂ r₂ => ?_
          exact tail_go (item_on (r₁.keeps (Keeps.get k₂)) r₂ hd fun v' s₃ k₃ r₃ => h _ _ (keeps_trans (keeps_trans k₁ k₂) k₃) r₃) (subscripted_plain hsl)
        · cases hd
      · cases hd
    exact ⟨ev, tr_of_ev ev rfl, notStar rfl, notSet rfl⟩
  | .from_ a lo, e, env, cv, he, hc => by
    refine onSub_elim hc fun v sl pos hc => ?_
    refine onSlc_elim hc fun l u st p1 hc => ?_
    refine none_elim (andL (andL hc)) ?_
    refine none_elim (andR (andL hc)) ?_
    have hc := andR hc
    refine any_elim hc fun l hc => ?_
    rw [Bool.and_eq_true] at hc
    obtain ⟨h1, h2⟩ := hc
    have ga := ev_all G hA hF a v env cv he h1
    have gl := ev_all G hA hF lo l env cv he h2
    have ev : EvOk prog w A h₀ names F σ env cv (.from_ a lo) (.Subscript v (.Slice (some l) none none p1) pos) := fun W s d Q hd hi h => by
      simp only [evE] at hd
      split at hd
      · rename_i x hx
        split at hd
        · rename_i kk hk
          refine Subscript_ (ga.ev W s x _ hx hi fun va s₁ k₁ r₁ => ?_)
          refine wpAny_Slice ?_
          refine gl.ev W s₁ _ _ hk (hi.keeps (Keeps.get k₁)) fun vl s₂ k₂ r₂ => ?_
          refine wpAny_evalPart_none (wpAny_evalPart_none ?_)
          have k₁₂ := keeps_trans k₁ k₂
          refine tail_go (ops := [.ref s₂.heap.objs.size, va]) (cut_on (hi.keeps (Keeps.get k₁₂)).wok (r₁.keeps (Keeps.get k₂)) (isPart_int r₂) .none hd fun v' s₃ k₃ r₃ => h _ _ (keeps_trans k₁₂ k₃) r₃) rfl
        · cases hd
      · cases hd
    exact ⟨ev, tr_of_ev ev rfl, notStar rfl, notSet rfl⟩
  | .upto a hi', e, env, cv, he, hc => by
    refine onSub_elim hc fun v sl pos hc => ?_
    refine onSlc_elim hc fun l u st p1 hc => ?_
    refine none_elim (andL (andL hc)) ?_
    refine none_elim (andR (andL hc)) ?_
    have hc := andR hc
    refine any_elim hc fun u hc => ?_
    rw [Bool.and_eq_true] at hc
    obtain ⟨h1, h2⟩ := hc
    have ga := ev_all G hA hF a v env cv he h1
    have gl := ev_all G hA hF hi' u env cv he h2
    have ev : EvOk prog w A h₀ names F σ env cv (.upto a hi') (.Subscript v (.Slice none (some u) none p1) pos) := fun W s d Q hd hi h => by
      simp only [evE] at hd
      split at hd
      · rename_i x hx
        split at hd
        · rename_i kk hk
          refine Subscript_ (ga.ev W s x _ hx hi fun va s₁ k₁ r₁ => ?_)
          refine wpAny_Slice (wpAny_evalPart_none ?_)
          refine gl.ev W s₁ _ _ hk (hi.keeps (Keeps.get k₁)) fun vl s₂ k₂ r₂ => ?_
          refine wpAny_evalPart_none ?_
          have k₁₂ := keeps_trans k₁ k₂
          refine tail_go (ops := [.ref s₂.heap.objs.size, va]) (cut_on (hi.keeps (Keeps.get k₁₂)).wok (r₁.keeps (Keeps.get k₂)) .none (isPart_int r₂) hd fun v' s₃ k₃ r₃ => h _ _ (keeps_trans k₁₂ k₃) r₃) rfl
        · cases hd
      · cases hd
    exact ⟨ev, tr_of_ev ev rfl, notStar rfl, notSet rfl⟩
  | .cut a lo hi', e, env, cv, he, hc => by
    refine onSub_elim hc fun v sl pos hc => ?_
    refine onSlc_elim hc fun l u st p1 hc => ?_
    have hst := andL hc
    have hc := andR hc
    refine none_elim hst ?_
    refine any_elim hc fun l hc => ?_
    refine any_elim hc fun u hc => ?_
    simp only [Bool.and_eq_true] at hc
    obtain ⟨⟨h1, h2⟩, h3⟩ := hc
    have ga := ev_all G hA hF a v env cv he h1
    have gl := ev_all G hA hF lo l env cv he h2
    have gu := ev_all G hA hF hi' u env cv he h3
    have ev : EvOk prog w A h₀ names F σ env cv (.cut a lo hi') (.Subscript v (.Slice (some l) (some u) none p1) pos) := fun W s d Q hd hi h => by
      simp only [evE] at hd
      split at hd
      · rename_i x hx
        split at hd
        · rename_i kk hk
          split at hd
          · rename_i jj hj
            refine Subscript_ (ga.ev W s x _ hx hi fun va s₁ k₁ r₁ => ?_)
            refine wpAny_Slice ?_
            refine gl.ev W s₁ _ _ hk (hi.keeps (Keeps.get k₁)) fun vl s₂ k₂ r₂ => ?_
            have k₁₂ := keeps_trans k₁ k₂
            refine gu.ev W s₂ _ _ hj (hi.keeps (Keeps.get k₁₂)) fun vu s₃ k₃ r₃ => ?_
            refine wpAny_evalPart_none ?_
            have k₁₃ := keeps_trans k₁₂ k₃
            refine tail_go (ops := [.ref s₃.heap.objs.size, va]) (cut_on (hi.keeps (Keeps.get k₁₃)).wok (r₁.keeps (Keeps.get (keeps_trans k₂ k₃))) (isPart_int r₂) (isPart_int r₃) hd fun v' s₄ k₄ r₄ => h _ _ (keeps_trans k₁₃ k₄) r₄) rfl
          · cases hd
        · cases hd
      · cases hd
    exact ⟨ev, tr_of_ev ev rfl, notStar rfl, notSet rfl⟩
  | .tup l, e, env, cv, he, hc => by
    refine onTup_elim hc fun es kk pos hc => ?_
    simp only [Bool.and_eq_true, decide_eq_true_eq] at hc
    have gs := evs_all G hA hF l es env cv he hc.2
    refine ⟨fun W s d Q hd hi h => ?_, fun W s b Q hd => ?_, notStar rfl, notSet rfl⟩
    · simp only [evE] at hd
      split at hd
      · rename_i ds hds
        cases hd
        refine Tuple_ (spliced_ok gs hds hi fun vs s₁ k₁ r₁ => ?_)
        have hl := both_len gs
        refine wpAny_newObj_type (h _ _ (keeps_trans k₁ (keeps_push _ _)) ?_) ?_
        · unfold Rep
          exact ⟨_, vs, rfl, (hi.keeps (Keeps.get k₁)).wok.fresh, ⟨_, Heap.get?_push_size _ rfl, rfl, _, rfl⟩, r₁.keeps fun _ _ e => Heap.get?_push_of_some _ e⟩
        · show vs.toArray.size ≤ sizeLine
          rw [List.size_toArray, r₁.len, seqO_len hds, evEs_len, hl, sizeLine_eq]
          omega
      · cases hd
    · simp only [evE] at hd
      split at hd <;> cases hd
  | .lst l, e, env, cv, he, hc => by
    refine onLst_elim hc fun es pos hc => ?_
    simp only [Bool.and_eq_true, decide_eq_true_eq] at hc
    have gs := evs_all G hA hF l es env cv he hc.2
    refine ⟨fun W s d Q hd hi h => ?_, fun W s b Q hd => ?_, notStar rfl, notSet rfl⟩
    · simp only [evE] at hd
      split at hd
      · rename_i ds hds
        cases hd
        refine List_ (spliced_ok gs hds hi fun vs s₁ k₁ r₁ => ?_)
        have hl := both_len gs
        refine wpAny_newObj_type (h _ _ (keeps_trans k₁ (keeps_push _ _)) ?_) ?_
        · unfold Rep
          exact ⟨_, vs, rfl, (hi.keeps (Keeps.get k₁)).wok.fresh, ⟨_, Heap.get?_push_size _ rfl⟩, r₁.keeps fun _ _ e => Heap.get?_push_of_some _ e⟩
        · show vs.toArray.size ≤ sizeLine
          rw [List.size_toArray, r₁.len, seqO_len hds, evEs_len, hl, sizeLine_eq]
          omega
      · cases hd
    · simp only [evE] at hd
      split at hd <;> cases hd
  | .call f args, e, env, cv, he, hc => by
    refine onCall_elim hc fun fe es ks pos hc => ?_
    have hk := andL hc
    have hc := andR hc
    refine nil_elim hk ?_
    refine onName_elim hc fun g p1 hc => ?_
    simp only [Bool.and_eq_true, beq_iff_eq, Bool.not_eq_true'] at hc
    obtain ⟨⟨⟨h1, h2⟩, h3⟩, h4⟩ := hc
    have gs := evs_all G hA hF args es env cv he h4
    obtain ⟨hmg, o, fd, ho, hfd⟩ := G.fns f g h1
    have ev : EvOk prog w A h₀ names F σ env cv (.call f args) (.Call (.Name g p1) es [] pos) := fun W s d Q hd hi h => by
      simp only [evE] at hd
      split at hd
      · rename_i ds hds
        rw [Call_name]
        refine wpAny_bind (globName_ok G he hi h3 h2 hmg ?_)
        refine callWith_function (o := o) (fd := fd) (evalArgs_ok gs hds hi fun vs s₁ k₁ r₁ => ?_)
        have hi₁ := hi.keeps (Keeps.get k₁)
        refine ⟨⟨hi₁.base _ _ ho, hfd⟩, ?_⟩
        exact hF f ds d hd W s₁ vs Q hi₁.base hi₁.wok r₁ fun v s₂ k₂ r₂ => h _ _ (keeps_trans k₁ k₂) r₂
      · cases hd
    exact ⟨ev, tr_of_ev ev rfl, notStar rfl, notSet rfl⟩
  | .prim q args, e, env, cv, he, hc => by
    refine onCall_elim hc fun fe es ks pos hc => ?_
    have hk := andL hc
    have hc := andR hc
    refine nil_elim hk ?_
    refine onName_elim hc fun g p1 hc => ?_
    simp only [Bool.and_eq_true, beq_iff_eq, Bool.not_eq_true'] at hc
    obtain ⟨⟨⟨h1, h2⟩, h3⟩, h4⟩ := hc
    subst h1
    have gs := evs_all G hA hF args es env cv he h4
    have ev : EvOk prog w A h₀ names F σ env cv (.prim q args) (.Call (.Name (primName q) p1) es [] pos) := fun W s d Q hd hi h => by
      simp only [evE] at hd
      split at hd
      · rename_i ds hds
        rw [Call_name]
        refine wpAny_bind (primName_ok G he hi h3 h2 ?_)
        refine callWith_prim (plain_args gs pos) (evalArgs_ok gs hds hi fun vs s₁ k₁ r₁ => ?_)
        have hi₁ := hi.keeps (Keeps.get k₁)
        exact prim_ok hA hi₁.wok r₁ hd fun v s₂ k₂ r₂ => h _ _ (keeps_trans k₁ k₂) r₂
      · cases hd
    exact ⟨ev, tr_of_ev ev rfl, notStar rfl, notSet rfl⟩
  | .join a, e, env, cv, he, hc => by
    refine onCall_elim hc fun fe es ks pos hc => ?_
    have hk := andL hc
    have hc := andR hc
    refine nil_elim hk ?_
    refine onOne_elim hc fun b hc => ?_
    refine onAttr_elim hc fun x m apos hc => ?_
    refine onCon_elim hc fun c k1 p1 hc => ?_
    simp only [Bool.and_eq_true, beq_iff_eq, decide_eq_true_eq] at hc
    obtain ⟨⟨⟨h1, h2⟩, h3⟩, h4⟩ := hc
    subst h1 h2
    have gb := ev_all G hA hF a b env cv he h4
    have ev : EvOk prog w A h₀ names F σ env cv (.join a) (.Call (.Attribute (.Constant (.str ⟨#[]⟩) k1 p1) "join" apos) [b] [] pos) := fun W s d Q hd hi h => by
      simp only [evE] at hd
      split at hd
      · rename_i y hy
        refine wpAny_Call_method (T := "str") (id := "str.join") rfl ?_ (by rw [beq_iff_eq]; exact h3) PySem.F.plainAttrs_str PySem.F.slot_str_join PySem.F.type_str_join ?_
        · rw [starEach_cons gb.star]; rfl
        · refine Constant_str ⟨typeIs_str _ _ _, (fun _ e => nomatch e), ?_⟩
          have gs : Goods prog w A h₀ names F σ env cv [a] [b] := .cons gb .nil
          have hi₁ := hi.keeps (Keeps.get (keeps_tok (s := s) (s.toks + 1)))
          refine callWith_builtin (plain_args gs pos) (evalArgs_ok gs (ds := [y]) (by simp [evEs, seqO, hy]) hi₁ fun vs s₂ k₂ r₂ => ?_)
          obtain ⟨v, rfl, rv⟩ := repL_one r₂
          exact join_ok rv hd fun v' s₃ k₃ r₃ => h _ _ (keeps_trans (keeps_trans (keeps_tok _) k₂) k₃) r₃
      · cases hd
    exact ⟨ev, tr_of_ev ev rfl, notStar rfl, notSet rfl⟩
  | .index a i, e, env, cv, he, hc => by
    refine onCall_elim hc fun fe es ks pos hc => ?_
    have hk := andL hc
    have hc := andR hc
    refine nil_elim hk ?_
    refine onOne_elim hc fun b hc => ?_
    refine onAttr_elim hc fun o m apos hc => ?_
    simp only [Bool.and_eq_true, beq_iff_eq] at hc
    obtain ⟨⟨⟨⟨h1, h2⟩, h3⟩, h4⟩, h5⟩ := hc
    subst h1
    have ga := ev_all G hA hF a o env cv he h4
    have gb := ev_all G hA hF i b env cv he h5
    have ev : EvOk prog w A h₀ names F σ env cv (.index a i) (.Call (.Attribute o "index" apos) [b] [] pos) := fun W s d Q hd hi h => by
      simp only [evE] at hd
      split at hd
      · rename_i x hx
        split at hd
        · rename_i y hy
          have hbase : attributeBase o "index" env (eval o env) = eval o env := by
            obtain ⟨_, _, rfl, _⟩ := onName_inv h3
            rfl
          refine wpAny_Call_method (T := "list") (id := "list.index") hbase ?_ (by rw [beq_iff_eq]; exact h2) PySem.F.plainAttrs_list PySem.F.slot_list_index PySem.F.type_list_index ?_
          · rw [starEach_cons gb.star]; rfl
          · refine ga.ev W s x _ hx hi fun va s₁ k₁ r₁ => ?_
            have hlist : ∃ l, x = .lst l := by
              cases x <;> first | exact ⟨_, rfl⟩ | (simp [evIndex] at hd)
            obtain ⟨l, rfl⟩ := hlist
            have r₁' := r₁
            unfold Rep at r₁
            obtain ⟨ad, vs, rfl, hw, pl, rl⟩ := r₁
            obtain ⟨n, ho⟩ := id pl
            refine ⟨pl.isList.typeIs, (fun a' e => by cases e; exact ⟨_, ho, rfl⟩), ?_⟩
            have gs : Goods prog w A h₀ names F σ env cv [i] [b] := .cons gb .nil
            refine callWith_builtin (plain_args gs pos) (evalArgs_ok gs (ds := [y]) (by simp [evEs, seqO, hy]) (hi.keeps (Keeps.get k₁)) fun vs s₂ k₂ r₂ => ?_)
            obtain ⟨v, rfl, rv⟩ := repL_one r₂
            exact index_ok (r₁'.keeps (Keeps.get k₂)) rv hd fun v' s₃ k₃ r₃ => h _ _ (keeps_trans (keeps_trans k₁ k₂) k₃) r₃
        · cases hd
      · cases hd
    exact ⟨ev, tr_of_ev ev rfl, notStar rfl, notSet rfl⟩
  | .comp elt src, e, env, cv, he, hc => by
    refine onComp_elim hc fun el gs sc' p2 hc => ?_
    refine onOne_elim hc fun gg hc => ?_
    obtain ⟨tg, it, ifs, a⟩ := gg
    have hf := andL hc
    have hc := andR hc
    refine nil_elim (l := ifs) hf ?_
    refine onName_elim (e := tg) hc fun y py hc => ?_
    simp only [Bool.and_eq_true, beq_iff_eq, Option.map_eq_none_iff] at hc
    obtain ⟨⟨⟨⟨h1, h2⟩, h3⟩, h4⟩, h5⟩ := hc
    subst h1 h2
    have hs := scOk_inv h3
    have gsrc := ev_all G hA hF src it env none he h4
    refine ⟨fun W s d Q hd hi h => ?_, fun W s b Q hd => ?_, notStar rfl, notSet rfl⟩
    · exact comp_ok hA.hh he hs (folded_plain gsrc.set) gsrc.ev (fun C dv => (ev_all G hA hF elt el (compEnvC sc' (clOf env sc'.names []) C env) (some (y, dv)) (envOk_comp he hs C) h5).ev) hd hi h
    · simp only [evE] at hd
      simp only [Option.map_none] at hd
      split at hd
      · split at hd
        · split at hd <;> cases hd
        · cases hd
      · cases hd
  | .filt src test, e, env, cv, he, hc => by
    refine onComp_elim hc fun el gs sc' p2 hc => ?_
    refine onOne_elim hc fun gg hc => ?_
    obtain ⟨tg, it, ifs, a⟩ := gg
    refine onOne_elim (l := ifs) hc fun t hc => ?_
    refine onName_elim hc fun z pz hc => ?_
    refine onName_elim (e := tg) hc fun y py hc => ?_
    simp only [Bool.and_eq_true, beq_iff_eq, Option.map_eq_none_iff, Bool.not_eq_true'] at hc
    obtain ⟨⟨⟨⟨⟨⟨h1, h6⟩, h7⟩, h2⟩, h3⟩, h4⟩, h5⟩ := hc
    subst h1 h2 h6
    have hs := scOk_inv h3
    have gsrc := ev_all G hA hF src it env none he h4
    refine ⟨fun W s d Q hd hi h => ?_, fun W s b Q hd => ?_, notStar rfl, notSet rfl⟩
    · exact filt_ok hA.hh he hs (folded_plain gsrc.set) h7 gsrc.ev (fun C dv => (ev_all G hA hF test t (compEnvC sc' (clOf env sc'.names []) C env) (some (z, dv)) (envOk_comp he hs C) h5).tr) hd hi h
    · simp only [evE] at hd
      simp only [Option.map_none] at hd
      split at hd
      · split at hd
        · split at hd <;> cases hd
        · cases hd
      · cases hd
theorem evs_all (G : Gl h₀ mg mb fn fa) (hA : Room A k) (hF : ∀ f ds d, F f ds = some d → CallOk prog w A h₀ (fa f) ds d) :
    ∀ (xs : List X) (es : List Expr) (env : Env) (cv : Option (PySem.Str × D)), EnvOk env → chkEs names fn xs env.scope (cv.map (·.1)) es = true → Goods prog w A h₀ names F σ env cv xs es
  | [], es, env, cv, he, hc => by
    cases es with
    | nil => exact .nil
    | cons _ _ => exact falseNot hc
  | x :: xs, es, env, cv, he, hc => by
    cases es with
    | nil => exact falseNot hc
    | cons e es =>
      replace hc := Bool.and_eq_true_iff.mp hc
      exact .cons (ev_all G hA hF x e env cv he hc.1) (evs_all G hA hF xs es env cv he hc.2)
end
end
end Mine

namespace Mine
open PySem PySem.W PySem.Calls PyProof.Rows PySem.SeqAt

mutual
theorem Rep.mono2 {W W' : AddrSet} {h h' : Heap} (hk : ∀ a o, ¬ W a → h.get? a = some o → ¬ W' a ∧ h'.get? a = some o) :
    ∀ (d : D) (v : Value), Rep W h d v → Rep W' h' d v
  | .none, v, x => by unfold Rep at x ⊢; exact x
  | .bool b, v, x => by unfold Rep at x ⊢; exact x
  | .int i, v, x => by unfold Rep at x ⊢; exact x
  | .str l, v, x => by unfold Rep at x ⊢; exact x
  | .bytes l, v, x => by unfold Rep at x ⊢; exact x
  | .range a b c, v, x => by
    unfold Rep at x ⊢
    obtain ⟨r, t, u, y, e, hr, ho⟩ := x
    exact ⟨r, t, u, y, e, (hk _ _ hr ho).1, (hk _ _ hr ho).2⟩
  | .tup l, v, x => by
    unfold Rep at x ⊢
    obtain ⟨a, vs, e, hr, ⟨o, ho, r⟩, hl⟩ := x
    exact ⟨a, vs, e, (hk _ _ hr ho).1, ⟨o, (hk _ _ hr ho).2, r⟩, RepL.mono2 hk l vs hl⟩
  | .lst l, v, x => by
    unfold Rep at x ⊢
    obtain ⟨a, vs, e, hr, ⟨n, ho⟩, hl⟩ := x
    exact ⟨a, vs, e, (hk _ _ hr ho).1, ⟨n, (hk _ _ hr ho).2⟩, RepL.mono2 hk l vs hl⟩
theorem RepL.mono2 {W W' : AddrSet} {h h' : Heap} (hk : ∀ a o, ¬ W a → h.get? a = some o → ¬ W' a ∧ h'.get? a = some o) :
    ∀ (ds : List D) (vs : List Value), RepL W h ds vs → RepL W' h' ds vs
  | [], vs, x => by unfold RepL at x ⊢; exact x
  | d :: ds, vs, x => by
    unfold RepL at x ⊢
    obtain ⟨v, r, e, a, b⟩ := x
    exact ⟨v, r, e, Rep.mono2 hk d v a, RepL.mono2 hk ds r b⟩
end

noncomputable def Own (env : Env) (ow : Nat → Option Addr) : AddrSet := fun a => a = env.locals ∨ (∃ y, env.cells.lookup y = some a) ∨ ∃ i : Nat, ow i = some a
noncomputable def Wall (W : AddrSet) (env : Env) (ow : Nat → Option Addr) : AddrSet := fun a => W a ∨ Own env ow a

noncomputable def Step (Y : AddrSet) (s s' : Shared) : Prop := ∃ h' tk, s' = { s with heap := h', toks := tk } ∧ (∀ b o, s.heap.get? b = some o → ¬ Y b → h'.get? b = some o) ∧
  ∀ b o, s.heap.get? b = some o → ∃ o', h'.get? b = some o'
noncomputable def OwSub (h : Heap) (ow ow' : Nat → Option Addr) : Prop := ∀ i a, ow' i = some a → (∃ j : Nat, ow j = some a) ∨ h.get? a = none

theorem Step.refl (Y : AddrSet) (s : Shared) : Step Y s s := ⟨s.heap, s.toks, rfl, fun _ _ e _ => e, fun _ o e => ⟨o, e⟩⟩
theorem OwSub.refl (h : Heap) (ow : Nat → Option Addr) : OwSub h ow ow := fun i a e => .inl ⟨i, e⟩
theorem Step.ofKeeps {Y : AddrSet} {s s' : Shared} (k : Keeps s s') : Step Y s s' := by
  obtain ⟨h', tk, rfl, k⟩ := k
  exact ⟨h', tk, rfl, fun b o e _ => k b o e, fun b o e => ⟨o, k b o e⟩⟩
theorem Step.kept {Y : AddrSet} {s s' : Shared} (x : Step Y s s') : ∀ b o, s.heap.get? b = some o → ¬ Y b → s'.heap.get? b = some o := by
  obtain ⟨h', tk, rfl, k, _⟩ := x
  exact k
theorem Step.live {Y : AddrSet} {s s' : Shared} (x : Step Y s s') : ∀ b o, s.heap.get? b = some o → ∃ o', s'.heap.get? b = some o' := by
  obtain ⟨h', tk, rfl, _, k⟩ := x
  exact k
theorem Step.trans {Y Z : AddrSet} {s s' s'' : Shared} (x : Step Y s s') (y : Step Z s' s'') (hz : ∀ b o, s.heap.get? b = some o → ¬ Y b → ¬ Z b) : Step Y s s'' := by
  obtain ⟨h', tk, rfl, k, l⟩ := x
  obtain ⟨h'', tk', rfl, k', l'⟩ := y
  refine ⟨h'', tk', rfl, fun b o e n => k' b o (k b o e n) (hz b o e n), fun b o e => ?_⟩
  obtain ⟨o', e'⟩ := l b o e
  exact l' b o' e'
theorem OwSub.trans {Y : AddrSet} {s s' : Shared} {ow ow' ow'' : Nat → Option Addr} (x : OwSub s.heap ow ow') (st : Step Y s s') (y : OwSub s'.heap ow' ow'') : OwSub s.heap ow ow'' := fun i a e => by
  rcases y i a e with ⟨j, h⟩ | h
  · exact x j a h
  · right
    cases q : s.heap.get? a with
    | none => rfl
    | some o =>
      obtain ⟨o', e'⟩ := st.live a o q
      rw [e'] at h
      cases h
theorem own_not {env : Env} {h : Heap} {ow ow' : Nat → Option Addr} (x : OwSub h ow ow') {b : Addr} {o : Obj} (e : h.get? b = some o) (n : ¬ Own env ow b) : ¬ Own env ow' b := by
  rintro (q | q | ⟨i, q⟩)
  · exact n (.inl q)
  · exact n (.inr (.inl q))
  · rcases x i b q with ⟨j, q⟩ | q
    · exact n (.inr (.inr ⟨j, q⟩))
    · rw [e] at q; cases q

structure SInv (h₀ : Heap) (names : List PySem.Str) (env : Env) (W : AddrSet) (m : PySem.Str → Option Value) (ow : Nat → Option Addr) (σ : List Slot) (h : Heap) : Prop where
  base : ∀ b o, h₀.get? b = some o → h.get? b = some o
  wok : WOk W h
  ns : h.Ns env.locals m
  lnew : h₀.get? env.locals = none
  lW : ¬ W env.locals
  cW : ∀ y c, env.cells.lookup y = some c → ¬ W c ∧ c ≠ env.locals ∧ h₀.get? c = none ∧ ∃ v, h.IsCell c v
  cinj : ∀ y z c, env.cells.lookup y = some c → env.cells.lookup z = some c → y = z
  oW : ∀ (i : Nat) (a : Addr), ow i = some a → ¬ W a ∧ a ≠ env.locals ∧ h₀.get? a = none ∧ (∀ y, env.cells.lookup y ≠ some a) ∧ (∃ ds, σ[i]? = some (.own ds))
  oinj : ∀ (i j : Nat) (a : Addr), ow i = some a → ow j = some a → i = j
  own : ∀ (i : Nat) (ds : List D), σ[i]? = some (.own ds) → ∃ y a vs, names[i]? = some y ∧ env.scope.names.lookup y = some .local ∧ ow i = some a ∧ m y = some (.ref a) ∧ h.PlainList a vs.toArray ∧ RepL (Wall W env ow) h ds vs
  loc : ∀ (i : Nat) (y : PySem.Str) (d : D), names[i]? = some y → σ[i]? = some (.val d) → env.scope.names.lookup y = some .local → ∃ v, m y = some v ∧ Rep (Wall W env ow) h d v
  cel : ∀ (i : Nat) (y : PySem.Str) (d : D), names[i]? = some y → σ[i]? = some (.val d) → env.scope.names.lookup y = some .cell → ∃ c v, env.cells.lookup y = some c ∧ h.IsCell c (some v) ∧ Rep (Wall W env ow) h d v

section
variable {prog : Program} {w : World} {A : Around} {h₀ : Heap} {mg mb : PySem.Str → Option Value} {fa : Nat → Addr} {names fn : List PySem.Str} {F : FTab} {k : Nat}
variable {env : Env} {W : AddrSet} {m : PySem.Str → Option Value} {ow : Nat → Option Addr} {σ : List Slot} {h h' : Heap} {s : Shared}

theorem SInv.wall (x : SInv h₀ names env W m ow σ h) : WOk (Wall W env ow) h := by
  rintro a (q | q | ⟨y, q⟩ | ⟨i, q⟩)
  · exact x.wok a q
  · subst q
    obtain ⟨o, _, _, ho, _⟩ := x.ns
    exact ⟨o, ho⟩
  · obtain ⟨_, _, _, v, o, ho, _⟩ := x.cW y a q
    exact ⟨o, ho⟩
  · obtain ⟨_, _, _, _, ds, hs⟩ := x.oW i a q
    obtain ⟨y, a', vs, _, _, ha, _, ⟨n, ho⟩, _⟩ := x.own i ds hs
    rw [q] at ha; cases ha
    exact ⟨_, ho⟩

theorem SInv.einv (x : SInv h₀ names env W m ow σ h) : EInv h₀ names env none (Wall W env ow) σ h where
  base := x.base
  wok := x.wall
  loc := fun _ i y d h1 h2 h3 => let ⟨v, a, b⟩ := x.loc i y d h1 h2 h3; ⟨m, v, x.ns, a, b⟩
  cel := x.cel
  cvr := fun y d e => nomatch e

theorem SInv.keeps (x : SInv h₀ names env W m ow σ h) (k : ∀ a o, h.get? a = some o → h'.get? a = some o) : SInv h₀ names env W m ow σ h' where
  base := fun b o e => k _ _ (x.base b o e)
  wok := x.wok.keeps k
  ns := x.ns.keeps k
  lnew := x.lnew
  lW := x.lW
  cW := fun y c e => let ⟨a, b, c', v, d⟩ := x.cW y c e; ⟨a, b, c', v, d.keeps k⟩
  cinj := x.cinj
  oW := x.oW
  oinj := x.oinj
  own := fun i ds e => let ⟨y, a, vs, h1, h2, h3, h4, h5, h6⟩ := x.own i ds e; ⟨y, a, vs, h1, h2, h3, h4, h5.at fun o e => k _ _ e, h6.keeps k⟩
  loc := fun i y d h1 h2 h3 => let ⟨v, a, b⟩ := x.loc i y d h1 h2 h3; ⟨v, a, b.keeps k⟩
  cel := fun i y d h1 h2 h3 => let ⟨c, v, a, b, e⟩ := x.cel i y d h1 h2 h3; ⟨c, v, a, b.keeps k, e.keeps k⟩

theorem set_get {α : Type} {l : List α} {i j : Nat} {x y : α} (h : (l.set i x)[j]? = some y) : (i = j ∧ y = x) ∨ (i ≠ j ∧ l[j]? = some y) := by
  rw [List.getElem?_set] at h
  by_cases e : i = j
  · subst e
    simp only [if_true] at h
    split at h
    · cases h; exact .inl ⟨rfl, rfl⟩
    · cases h
  · rw [if_neg e] at h
    exact .inr ⟨e, h⟩

noncomputable def dropOw (ow : Nat → Option Addr) (i : Nat) : Nat → Option Addr := fun j => if j = i then none else ow j

theorem dropOw_sub {i j : Nat} {a : Addr} (e : dropOw ow i j = some a) : j ≠ i ∧ ow j = some a := by
  unfold dropOw at e
  by_cases hj : j = i
  · rw [if_pos hj] at e; cases e
  · rw [if_neg hj] at e; exact ⟨hj, e⟩
theorem owSub_drop {i : Nat} (hp : Heap) : OwSub hp ow (dropOw ow i) := fun j a e => .inl ⟨j, (dropOw_sub e).2⟩
theorem wall_drop {i : Nat} {a : Addr} (q : Wall W env (dropOw ow i) a) : Wall W env ow a := by
  rcases q with q | q | q | ⟨j, q⟩
  · exact .inl q
  · exact .inr (.inl q)
  · exact .inr (.inr (.inl q))
  · exact .inr (.inr (.inr ⟨j, (dropOw_sub q).2⟩))

/-- a datum is stored under a local name -/
theorem store_local2 (hn : names.Nodup) {i : Nat} {y : PySem.Str} {d : D} {v : Value} (x : SInv h₀ names env W m ow σ h) (hy : names[i]? = some y) (hl : env.scope.names.lookup y = some .local)
    (hr : Rep (Wall W env (dropOw ow i)) h' d v) (hns : h'.Ns env.locals (fun z => if z = y then some v else m z)) (up : ∀ a o, a ≠ env.locals → h.get? a = some o → h'.get? a = some o) :
    SInv h₀ names env W (fun z => if z = y then some v else m z) (dropOw ow i) (σ.set i (.val d)) h' := by
  have upW : ∀ a o, ¬ Wall W env ow a → h.get? a = some o → ¬ Wall W env (dropOw ow i) a ∧ h'.get? a = some o := fun a o n e =>
    ⟨fun q => n (wall_drop q), up a o (fun q => n (.inr (.inl q))) e⟩
  have nd : ∀ {j : Nat} {z : PySem.Str}, names[j]? = some z → j ≠ i → z ≠ y := fun {j z} hz hne e => by
    subst e
    exact hne ((List.getElem?_inj (List.getElem?_eq_some_iff.mp hz).1 hn).mp (hz.trans hy.symm))
  constructor
  · exact fun b o e => up b o (fun q => by rw [q, x.lnew] at e; cases e) (x.base b o e)
  · exact fun a q => by
      obtain ⟨o, e⟩ := x.wok a q
      exact ⟨o, up a o (fun q' => x.lW (q' ▸ q)) e⟩
  · exact hns
  · exact x.lnew
  · exact x.lW
  · exact fun z c e => by
      obtain ⟨a, b, c', u, o, ho, hc⟩ := x.cW z c e
      exact ⟨a, b, c', u, o, up c o b ho, hc⟩
  · exact x.cinj
  · exact fun j a e => by
      obtain ⟨hne, e⟩ := dropOw_sub e
      obtain ⟨a1, a2, a3, a4, ds, a5⟩ := x.oW j a e
      refine ⟨a1, a2, a3, a4, ds, ?_⟩
      rw [List.getElem?_set_ne (Ne.symm hne)]
      exact a5
  · exact fun j l a e1 e2 => x.oinj j l a (dropOw_sub e1).2 (dropOw_sub e2).2
  · intro j ds e
    rcases set_get e with ⟨_, q⟩ | ⟨hne, e⟩
    · cases q
    · obtain ⟨z, a, vs, h1, h2, h3, h4, h5, h6⟩ := x.own j ds e
      refine ⟨z, a, vs, h1, h2, ?_, ?_, h5.at fun o e => up a o (x.oW j a h3).2.1 e, RepL.mono2 upW _ _ h6⟩
      · unfold dropOw; rw [if_neg (Ne.symm hne)]; exact h3
      · rw [if_neg (nd h1 (Ne.symm hne))]; exact h4
  · intro j z d' hz e hk
    rcases set_get e with ⟨q1, q2⟩ | ⟨hne, e⟩
    · cases q2
      subst q1
      rw [hy] at hz
      cases hz
      exact ⟨v, if_pos rfl, hr⟩
    · obtain ⟨u, h1, h2⟩ := x.loc j z d' hz e hk
      exact ⟨u, by rw [if_neg (nd hz (Ne.symm hne))]; exact h1, Rep.mono2 upW _ _ h2⟩
  · intro j z d' hz e hk
    rcases set_get e with ⟨q1, q2⟩ | ⟨hne, e⟩
    · subst q1
      rw [hy] at hz
      cases hz
      rw [hl] at hk
      cases hk
    · obtain ⟨c, u, h1, ⟨o, ho, h2⟩, h3⟩ := x.cel j z d' hz e hk
      exact ⟨c, u, h1, ⟨o, up c o (x.cW z c h1).2.1 ho, h2⟩, Rep.mono2 upW _ _ h3⟩

theorem store_local (hn : names.Nodup) {i : Nat} {y : PySem.Str} {d : D} {v : Value} (x : SInv h₀ names env W m ow σ h) (hy : names[i]? = some y) (hl : env.scope.names.lookup y = some .local)
    (hr : Rep (Wall W env ow) h d v) (hns : h'.Ns env.locals (fun z => if z = y then some v else m z)) (hs : Heap.SameBut env.locals h h') :
    SInv h₀ names env W (fun z => if z = y then some v else m z) (dropOw ow i) (σ.set i (.val d)) h' := by
  refine store_local2 hn x hy hl (Rep.mono2 (fun a o n e => ⟨fun q => n (wall_drop q), hs.extBut a o (fun q => n (.inr (.inl q))) e⟩) _ _ hr) hns fun a o n e => hs.extBut a o n e

/-- a datum is stored under a name that a comprehension captures -/
theorem store_cell (hn : names.Nodup) {i : Nat} {y : PySem.Str} {d : D} {v : Value} {c : Addr} (x : SInv h₀ names env W m ow σ h) (hy : names[i]? = some y) (hl : env.scope.names.lookup y = some .cell)
    (hc : env.cells.lookup y = some c) (hr : Rep (Wall W env ow) h d v) (hv : h'.IsCell c (some v)) (hs : Heap.SameBut c h h') :
    SInv h₀ names env W m (dropOw ow i) (σ.set i (.val d)) h' := by
  have hcW := x.cW y c hc
  have up : ∀ a o, a ≠ c → h.get? a = some o → h'.get? a = some o := fun a o n e => hs.extBut a o n e
  have upW : ∀ a o, ¬ Wall W env ow a → h.get? a = some o → ¬ Wall W env (dropOw ow i) a ∧ h'.get? a = some o := fun a o n e =>
    ⟨fun q => n (wall_drop q), up a o (fun q => n (.inr (.inr (.inl ⟨y, q ▸ hc⟩)))) e⟩
  have nd : ∀ {j : Nat} {z : PySem.Str}, names[j]? = some z → j ≠ i → z ≠ y := fun {j z} hz hne e => by
    subst e
    exact hne ((List.getElem?_inj (List.getElem?_eq_some_iff.mp hz).1 hn).mp (hz.trans hy.symm))
  constructor
  · exact fun b o e => up b o (fun q => by rw [q, hcW.2.2.1] at e; cases e) (x.base b o e)
  · exact fun a q => by
      obtain ⟨o, e⟩ := x.wok a q
      exact ⟨o, up a o (fun q' => hcW.1 (q' ▸ q)) e⟩
  · exact x.ns.sameBut hs (Ne.symm hcW.2.1)
  · exact x.lnew
  · exact x.lW
  · exact fun z c' e => by
      obtain ⟨a, b, c'', u, hc'⟩ := x.cW z c' e
      by_cases hcc : c' = c
      · subst hcc
        exact ⟨a, b, c'', _, hv⟩
      · exact ⟨a, b, c'', u, hc'.sameBut hs hcc⟩
  · exact x.cinj
  · exact fun j a e => by
      obtain ⟨hne, e⟩ := dropOw_sub e
      obtain ⟨a1, a2, a3, a4, ds, a5⟩ := x.oW j a e
      refine ⟨a1, a2, a3, a4, ds, ?_⟩
      rw [List.getElem?_set_ne (Ne.symm hne)]
      exact a5
  · exact fun j l a e1 e2 => x.oinj j l a (dropOw_sub e1).2 (dropOw_sub e2).2
  · intro j ds e
    rcases set_get e with ⟨_, q⟩ | ⟨hne, e⟩
    · cases q
    · obtain ⟨z, a, vs, h1, h2, h3, h4, h5, h6⟩ := x.own j ds e
      refine ⟨z, a, vs, h1, h2, ?_, h4, h5.at fun o e => up a o (fun q => (x.oW j a h3).2.2.2.1 y (q ▸ hc)) e, RepL.mono2 upW _ _ h6⟩
      unfold dropOw; rw [if_neg (Ne.symm hne)]; exact h3
  · intro j z d' hz e hk
    rcases set_get e with ⟨q1, q2⟩ | ⟨hne, e⟩
    · subst q1
      rw [hy] at hz
      cases hz
      rw [hl] at hk
      cases hk
    · obtain ⟨u, h1, h2⟩ := x.loc j z d' hz e hk
      exact ⟨u, h1, Rep.mono2 upW _ _ h2⟩
  · intro j z d' hz e hk
    rcases set_get e with ⟨q1, q2⟩ | ⟨hne, e⟩
    · cases q2
      subst q1
      rw [hy] at hz
      cases hz
      exact ⟨c, v, hc, hv, Rep.mono2 upW _ _ hr⟩
    · obtain ⟨c', u, h1, h2, h3⟩ := x.cel j z d' hz e hk
      refine ⟨c', u, h1, h2.sameBut hs (fun q => ?_), Rep.mono2 upW _ _ h3⟩
      subst q
      exact nd hz (Ne.symm hne) (x.cinj _ _ _ h1 hc)

theorem store_ok (hn : names.Nodup) {i : Nat} {y : PySem.Str} {d : D} {v : Value} {Q : Unit → Shared → Prop} (he : EnvOk env) (x : SInv h₀ names env W m ow σ s.heap) (hy : names[i]? = some y)
    (hl : env.scope.names.lookup y = some .local ∨ env.scope.names.lookup y = some .cell) (hr : Rep (Wall W env ow) s.heap d v)
    (hq : ∀ s' m' ow', Step (Own env ow) s s' → OwSub s.heap ow ow' → SInv h₀ names env W m' ow' (σ.set i (.val d)) s'.heap → Q () s') :
    wpAny (model prog w) A (storeName env y v) Q (fun _ _ => False) s := by
  rcases hl with hl | hl
  · refine wpAny_storeName_local hl x.ns (fun h' hns hs => ?_) (by rw [he.kind]; rfl)
    refine hq _ _ _ ⟨h', _, rfl, fun b o e n => hs.extBut b o (fun q => n (.inl q)) e, fun b o e => ?_⟩ (owSub_drop _) (store_local hn x hy hl hr hns hs)
    by_cases hb : b = env.locals
    · subst hb
      obtain ⟨o', _, _, ho', _⟩ := hns
      exact ⟨o', ho'⟩
    · exact ⟨o, hs.extBut b o hb e⟩
  · obtain ⟨c, hc⟩ := he.cells y hl
    obtain ⟨_, _, _, v₀, hv₀⟩ := x.cW y c hc
    refine wpAny_storeName_cell he.kind hl hc hv₀ fun h' hv hs => ?_
    refine hq _ _ _ ⟨h', _, rfl, fun b o e n => hs.extBut b o (fun q => n (.inr (.inl ⟨y, q ▸ hc⟩))) e, fun b o e => ?_⟩ (owSub_drop _) (store_cell hn x hy hl hc hr hv hs)
    by_cases hb : b = c
    · subst hb
      obtain ⟨o', ho', _⟩ := hv
      exact ⟨o', ho'⟩
    · exact ⟨o, hs.extBut b o hb e⟩
end
end Mine

namespace Mine
open PySem PySem.W PySem.Calls PyProof.Rows PySem.SeqAt

section
variable {prog : Program} {w : World} {A : Around} {h₀ : Heap} {mg mb : PySem.Str → Option Value} {fa : Nat → Addr} {names fn : List PySem.Str} {F : FTab} {k : Nat}
variable {env : Env} {W : AddrSet} {m : PySem.Str → Option Value} {ow : Nat → Option Addr} {σ : List Slot} {h h' : Heap} {s : Shared}

theorem name_ne (hn : names.Nodup) {i j : Nat} {y z : PySem.Str} (hy : names[i]? = some y) (hz : names[j]? = some z) (hne : j ≠ i) : z ≠ y := fun e => by
  subst e
  exact hne ((List.getElem?_inj (List.getElem?_eq_some_iff.mp hz).1 hn).mp (hz.trans hy.symm))

noncomputable def putOw (ow : Nat → Option Addr) (i : Nat) (a : Addr) : Nat → Option Addr := fun j => if j = i then some a else ow j

theorem new_own (hn : names.Nodup) {i : Nat} {y : PySem.Str} {a : Addr} (x : SInv h₀ names env W m ow σ h) (hy : names[i]? = some y) (hl : env.scope.names.lookup y = some .local)
    (hi : i < σ.length) (ha : h.get? a = none) (hp : h'.PlainList a #[]) (hns : h'.Ns env.locals (fun z => if z = y then some (.ref a) else m z))
    (up : ∀ b o, b ≠ env.locals → h.get? b = some o → h'.get? b = some o) :
    SInv h₀ names env W (fun z => if z = y then some (.ref a) else m z) (putOw ow i a) (σ.set i (.own [])) h' := by
  have alive : ∀ b o, h.get? b = some o → b ≠ a := fun b o e q => by rw [q, ha] at e; cases e
  have upW : ∀ b o, ¬ Wall W env ow b → h.get? b = some o → ¬ Wall W env (putOw ow i a) b ∧ h'.get? b = some o := fun b o n e =>
    ⟨fun q => by
      rcases q with q | q | q | ⟨j, q⟩
      · exact n (.inl q)
      · exact n (.inr (.inl q))
      · exact n (.inr (.inr (.inl q)))
      · unfold putOw at q
        by_cases hj : j = i
        · rw [if_pos hj] at q; cases q; exact alive _ _ e rfl
        · rw [if_neg hj] at q; exact n (.inr (.inr (.inr ⟨j, q⟩))),
    up b o (fun q => n (.inr (.inl q))) e⟩
  have nd := fun {j : Nat} {z : PySem.Str} (hz : names[j]? = some z) (hne : j ≠ i) => name_ne hn hy hz hne
  have hh : h₀.get? a = none := by
    cases q : h₀.get? a with
    | none => rfl
    | some o => have := x.base a o q; rw [ha] at this; cases this
  have haW : ¬ W a := fun q => by obtain ⟨o, e⟩ := x.wok a q; rw [ha] at e; cases e
  have haL : a ≠ env.locals := fun q => by obtain ⟨o, _, _, e, _⟩ := x.ns; rw [← q, ha] at e; cases e
  have hac : ∀ z, env.cells.lookup z ≠ some a := fun z q => by obtain ⟨_, _, _, v, o, e, _⟩ := x.cW z a q; rw [ha] at e; cases e
  have hown : ∀ (j : Nat) (b : Addr), ow j = some b → b ≠ a := fun j b q e => by
    obtain ⟨_, _, _, _, ds, hs⟩ := x.oW j b q
    obtain ⟨z, a', vs, _, _, h3, _, ⟨n, ho⟩, _⟩ := x.own j ds hs
    rw [q] at h3; cases h3
    exact alive _ _ ho e
  constructor
  · exact fun b o e => up b o (fun q => by rw [q, x.lnew] at e; cases e) (x.base b o e)
  · exact fun b q => by
      obtain ⟨o, e⟩ := x.wok b q
      exact ⟨o, up b o (fun q' => x.lW (q' ▸ q)) e⟩
  · exact hns
  · exact x.lnew
  · exact x.lW
  · exact fun z c e => by
      obtain ⟨a1, b, c', u, ⟨o, ho, hd⟩⟩ := x.cW z c e
      exact ⟨a1, b, c', u, o, up c o b ho, hd⟩
  · exact x.cinj
  · intro j b e
    unfold putOw at e
    by_cases hj : j = i
    · rw [if_pos hj] at e
      cases e
      refine ⟨haW, haL, hh, hac, [], ?_⟩
      rw [hj, List.getElem?_set_self hi]
    · rw [if_neg hj] at e
      obtain ⟨a1, a2, a3, a4, ds, a5⟩ := x.oW j b e
      refine ⟨a1, a2, a3, a4, ds, ?_⟩
      rw [List.getElem?_set_ne (Ne.symm hj)]
      exact a5
  · intro j l b e1 e2
    unfold putOw at e1 e2
    by_cases hj : j = i
    · by_cases hl' : l = i
      · rw [hj, hl']
      · rw [if_pos hj] at e1; rw [if_neg hl'] at e2
        cases e1
        exact absurd rfl (hown l _ e2)
    · by_cases hl' : l = i
      · rw [if_neg hj] at e1; rw [if_pos hl'] at e2
        cases e2
        exact absurd rfl (hown j _ e1)
      · rw [if_neg hj] at e1; rw [if_neg hl'] at e2
        exact x.oinj j l b e1 e2
  · intro j ds e
    rcases set_get e with ⟨q1, q2⟩ | ⟨hne, e⟩
    · cases q2
      subst q1
      exact ⟨y, a, [], hy, hl, by unfold putOw; rw [if_pos rfl], if_pos rfl, hp, RepL.nil⟩
    · obtain ⟨z, b, vs, h1, h2, h3, h4, h5, h6⟩ := x.own j ds e
      refine ⟨z, b, vs, h1, h2, ?_, ?_, h5.at fun o e => up b o (x.oW j b h3).2.1 e, RepL.mono2 upW _ _ h6⟩
      · unfold putOw; rw [if_neg (Ne.symm hne)]; exact h3
      · rw [if_neg (nd h1 (Ne.symm hne))]; exact h4
  · intro j z d' hz e hk
    rcases set_get e with ⟨q1, q2⟩ | ⟨hne, e⟩
    · cases q2
    · obtain ⟨u, h1, h2⟩ := x.loc j z d' hz e hk
      exact ⟨u, by rw [if_neg (nd hz (Ne.symm hne))]; exact h1, Rep.mono2 upW _ _ h2⟩
  · intro j z d' hz e hk
    rcases set_get e with ⟨q1, q2⟩ | ⟨hne, e⟩
    · cases q2
    · obtain ⟨c, u, h1, ⟨o, ho, hd⟩, h3⟩ := x.cel j z d' hz e hk
      exact ⟨c, u, h1, ⟨o, up c o (x.cW z c h1).2.1 ho, hd⟩, Rep.mono2 upW _ _ h3⟩

theorem grow_own {i : Nat} {ds es : List D} {a : Addr} {vs ws : List Value} (x : SInv h₀ names env W m ow σ h) (hs : σ[i]? = some (.own ds)) (ha : ow i = some a)
    (rv : RepL (Wall W env ow) h ds vs) (rw' : RepL (Wall W env ow) h es ws)
    (hp : h'.PlainList a (vs ++ ws).toArray) (up : ∀ b o, b ≠ a → h.get? b = some o → h'.get? b = some o) :
    SInv h₀ names env W m ow (σ.set i (.own (ds ++ es))) h' := by
  obtain ⟨oW1, oW2, oW3, oW4, _⟩ := x.oW i a ha
  have hilt : i < σ.length := (List.getElem?_eq_some_iff.mp hs).1
  have upW : ∀ b o, ¬ Wall W env ow b → h.get? b = some o → ¬ Wall W env ow b ∧ h'.get? b = some o := fun b o n e =>
    ⟨n, up b o (fun q => n (.inr (.inr (.inr ⟨i, q ▸ ha⟩)))) e⟩
  constructor
  · exact fun b o e => up b o (fun q => by rw [q, oW3] at e; cases e) (x.base b o e)
  · exact fun b q => by
      obtain ⟨o, e⟩ := x.wok b q
      exact ⟨o, up b o (fun q' => oW1 (q' ▸ q)) e⟩
  · exact x.ns.at' fun o e => up _ o (Ne.symm oW2) e
  · exact x.lnew
  · exact x.lW
  · exact fun z c e => by
      obtain ⟨a1, b, c', u, ⟨o, ho, hd⟩⟩ := x.cW z c e
      exact ⟨a1, b, c', u, o, up c o (fun q => oW4 z (q ▸ e)) ho, hd⟩
  · exact x.cinj
  · intro j b e
    obtain ⟨a1, a2, a3, a4, ds', a5⟩ := x.oW j b e
    by_cases hj : i = j
    · subst hj
      exact ⟨a1, a2, a3, a4, _, List.getElem?_set_self hilt⟩
    · refine ⟨a1, a2, a3, a4, ds', ?_⟩
      rw [List.getElem?_set_ne hj]
      exact a5
  · exact x.oinj
  · intro j ds' e
    rcases set_get e with ⟨q1, q2⟩ | ⟨hne, e⟩
    · cases q2
      subst q1
      obtain ⟨z, b, vs', h1, h2, h3, h4, h5, h6⟩ := x.own i ds hs
      rw [ha] at h3
      cases h3
      refine ⟨z, a, vs ++ ws, h1, h2, ha, h4, hp, RepL.mono2 upW _ _ (rv.append rw')⟩
    · obtain ⟨z, b, vs', h1, h2, h3, h4, h5, h6⟩ := x.own j ds' e
      exact ⟨z, b, vs', h1, h2, h3, h4, h5.at fun o e => up b o (fun q => hne (x.oinj i j a ha (q ▸ h3))) e, RepL.mono2 upW _ _ h6⟩
  · intro j z d' hz e hk
    rcases set_get e with ⟨q1, q2⟩ | ⟨hne, e⟩
    · cases q2
    · obtain ⟨u, h1, h2⟩ := x.loc j z d' hz e hk
      exact ⟨u, h1, Rep.mono2 upW _ _ h2⟩
  · intro j z d' hz e hk
    rcases set_get e with ⟨q1, q2⟩ | ⟨hne, e⟩
    · cases q2
    · obtain ⟨c, u, h1, ⟨o, ho, hd⟩, h3⟩ := x.cel j z d' hz e hk
      exact ⟨c, u, h1, ⟨o, up c o (fun q => oW4 z (q ▸ h1)) ho, hd⟩, Rep.mono2 upW _ _ h3⟩

theorem freeze_own (hn : names.Nodup) {i : Nat} {ds : List D} (x : SInv h₀ names env W m ow σ h) (hs : σ[i]? = some (.own ds)) :
    SInv h₀ names env W m (dropOw ow i) (σ.set i (.val (.lst ds))) h := by
  obtain ⟨y, a, vs, g1, g2, g3, g4, g5, g6⟩ := x.own i ds hs
  obtain ⟨oW1, oW2, oW3, oW4, _⟩ := x.oW i a g3
  have upW : ∀ b o, ¬ Wall W env ow b → h.get? b = some o → ¬ Wall W env (dropOw ow i) b ∧ h.get? b = some o := fun b o n e => ⟨fun q => n (wall_drop q), e⟩
  constructor
  · exact x.base
  · exact x.wok
  · exact x.ns
  · exact x.lnew
  · exact x.lW
  · exact x.cW
  · exact x.cinj
  · exact fun j b e => by
      obtain ⟨hne, e⟩ := dropOw_sub e
      obtain ⟨a1, a2, a3, a4, ds', a5⟩ := x.oW j b e
      refine ⟨a1, a2, a3, a4, ds', ?_⟩
      rw [List.getElem?_set_ne (Ne.symm hne)]
      exact a5
  · exact fun j l b e1 e2 => x.oinj j l b (dropOw_sub e1).2 (dropOw_sub e2).2
  · intro j ds' e
    rcases set_get e with ⟨_, q⟩ | ⟨hne, e⟩
    · cases q
    · obtain ⟨z, b, vs', h1, h2, h3, h4, h5, h6⟩ := x.own j ds' e
      refine ⟨z, b, vs', h1, h2, ?_, h4, h5, RepL.mono2 upW _ _ h6⟩
      unfold dropOw; rw [if_neg (Ne.symm hne)]; exact h3
  · intro j z d' hz e hk
    rcases set_get e with ⟨q1, q2⟩ | ⟨hne, e⟩
    · cases q2
      subst q1
      rw [g1] at hz
      cases hz
      refine ⟨.ref a, g4, ?_⟩
      unfold Rep
      refine ⟨a, vs, rfl, ?_, g5, RepL.mono2 upW _ _ g6⟩
      rintro (q | q | ⟨z, q⟩ | ⟨j, q⟩)
      · exact oW1 q
      · exact oW2 q
      · exact oW4 z q
      · obtain ⟨hne, q⟩ := dropOw_sub q
        exact hne (x.oinj j i a q g3)
    · obtain ⟨u, h1, h2⟩ := x.loc j z d' hz e hk
      exact ⟨u, h1, Rep.mono2 upW _ _ h2⟩
  · intro j z d' hz e hk
    rcases set_get e with ⟨q1, q2⟩ | ⟨hne, e⟩
    · cases q2
      subst q1
      rw [g1] at hz
      cases hz
      rw [g2] at hk
      cases hk
    · obtain ⟨c, u, h1, h2, h3⟩ := x.cel j z d' hz e hk
      exact ⟨c, u, h1, h2, Rep.mono2 upW _ _ h3⟩

/-! targets -/
noncomputable def nameOk (names : List PySem.Str) (sc : Scope) (i : Nat) (e : Expr) : Bool :=
  onName e fun y _ => names[i]? == some y && (sc.names.lookup y == some .local || sc.names.lookup y == some .cell)
noncomputable def tgtIs (names : List PySem.Str) (sc : Scope) : List Nat → List Expr → Bool
  | [], l => l.isEmpty
  | i :: is, l => match l with
    | [] => false
    | e :: es => nameOk names sc i e && tgtIs names sc is es
noncomputable def chkT (names : List PySem.Str) (sc : Scope) (t : T) (e : Expr) : Bool := match t with
  | .one i => nameOk names sc i e
  | .many l => onTup e fun es _ _ => tgtIs names sc l es

theorem nameOk_inv {sc : Scope} {i : Nat} {e : Expr} (h : nameOk names sc i e = true) : ∃ y p, e = .Name y p ∧ names[i]? = some y ∧ (sc.names.lookup y = some .local ∨ sc.names.lookup y = some .cell) := by
  obtain ⟨y, p, he, h⟩ := onName_inv h
  simp only [Bool.and_eq_true, Bool.or_eq_true, beq_iff_eq] at h
  exact ⟨y, p, he, h⟩

/-- what a statement leaves -/
noncomputable def After (h₀ : Heap) (names : List PySem.Str) (env : Env) (W : AddrSet) (ow : Nat → Option Addr) (s : Shared) (σ' : List Slot) (s' : Shared) : Prop :=
  ∃ m' ow', Step (Own env ow) s s' ∧ OwSub s.heap ow ow' ∧ SInv h₀ names env W m' ow' σ' s'.heap

theorem After.step {σ'' : List Slot} {ow' : Nat → Option Addr} {s s' s'' : Shared} (st : Step (Own env ow) s s') (ws : OwSub s.heap ow ow') (a : After h₀ names env W ow' s' σ'' s'') : After h₀ names env W ow s σ'' s'' := by
  obtain ⟨m'', ow'', st', ws', x⟩ := a
  exact ⟨m'', ow'', st.trans st' fun b o e n => own_not ws e n, ws.trans st ws', x⟩

theorem assign_name (hn : names.Nodup) {i : Nat} {e : Expr} {d : D} {v : Value} {Q : Unit → Shared → Prop} (he : EnvOk env) (hc : nameOk names env.scope i e = true) (x : SInv h₀ names env W m ow σ s.heap)
    (hr : Rep (Wall W env ow) s.heap d v) (hq : ∀ s', After h₀ names env W ow s (σ.set i (.val d)) s' → Q () s') : wpAny (model prog w) A (assign e env v) Q (fun _ _ => False) s := by
  obtain ⟨y, p, rfl, hy, hl⟩ := nameOk_inv hc
  exact wpAny_assign_Name (store_ok hn he x hy hl hr fun s' m' ow' st ws x' => hq s' ⟨m', ow', st, ws, x'⟩)

theorem rep_after {ow' : Nat → Option Addr} {d : D} {v : Value} {s s' : Shared} (hr : Rep (Wall W env ow) s.heap d v) (st : Step (Own env ow) s s') (ws : OwSub s.heap ow ow') : Rep (Wall W env ow') s'.heap d v :=
  Rep.mono2 (fun a o n e => ⟨fun q => by
    rcases q with q | q
    · exact n (.inl q)
    · exact own_not ws e (fun q' => n (.inr q')) q, st.kept a o e fun q => n (.inr q)⟩) d v hr
theorem repL_after {ow' : Nat → Option Addr} {d : List D} {v : List Value} {s s' : Shared} (hr : RepL (Wall W env ow) s.heap d v) (st : Step (Own env ow) s s') (ws : OwSub s.heap ow ow') : RepL (Wall W env ow') s'.heap d v :=
  RepL.mono2 (fun a o n e => ⟨fun q => by
    rcases q with q | q
    · exact n (.inl q)
    · exact own_not ws e (fun q' => n (.inr q')) q, st.kept a o e fun q => n (.inr q)⟩) d v hr

theorem assignEach_name {y : PySem.Str} {p : Pos} {r : List Expr} : assignEach (.Name y p :: r) env = (false, assign (.Name y p) env) :: assignEach r env := rfl

theorem assign_many (hn : names.Nodup) (he : EnvOk env) : ∀ (l : List Nat) (es : List Expr) (ds : List D) (vs : List Value) (σ σ' : List Slot) (m : PySem.Str → Option Value) (ow : Nat → Option Addr) (s : Shared) (Q : Unit → Shared → Prop),
    tgtIs names env.scope l es = true → setMany l ds σ = some σ' → SInv h₀ names env W m ow σ s.heap → RepL (Wall W env ow) s.heap ds vs → (∀ s', After h₀ names env W ow s σ' s' → Q () s') →
    wpAny (model prog w) A (assignInOrder ((assignEach es env).map (·.2)) vs) Q (fun _ _ => False) s
  | [], es, ds, vs, σ, σ', m, ow, s, Q, hc, hs, x, hr, hq => by
    cases es with
    | cons _ _ => simp [tgtIs] at hc
    | nil =>
      cases ds with
      | cons _ _ => simp [setMany] at hs
      | nil =>
        simp [setMany] at hs
        subst hs
        rw [hr.invNil]
        exact wpAny_pure (hq s ⟨m, ow, Step.refl _ _, OwSub.refl _ _, x⟩)
  | i :: l, es, ds, vs, σ, σ', m, ow, s, Q, hc, hs, x, hr, hq => by
    cases es with
    | nil => simp [tgtIs] at hc
    | cons e es =>
      cases ds with
      | nil => simp [setMany] at hs
      | cons d ds =>
        obtain ⟨v, vr, rfl, r1, r2⟩ := hr.inv
        simp only [tgtIs, Bool.and_eq_true] at hc
        simp only [setMany] at hs
        obtain ⟨y, p, rfl, hy, hl⟩ := nameOk_inv hc.1
        rw [assignEach_name]
        show wpAny _ A (holding vr (assign (.Name y p) env v) >>= fun _ => assignInOrder ((assignEach es env).map (·.2)) vr) Q _ s
        refine wpAny_bind (wpAny_holding (assign_name hn he hc.1 x r1 fun s' a => ?_))
        obtain ⟨m', ow', st, ws, x'⟩ := a
        exact assign_many hn he l es ds vr _ _ m' ow' s' Q hc.2 hs x' (repL_after r2 st ws) fun s'' a' => hq s'' (a'.step st ws)

theorem tgt_len : ∀ {l : List Nat} {es : List Expr} {sc : Scope}, tgtIs names sc l es = true → l.length = es.length
  | [], [], _, _ => rfl
  | [], _ :: _, _, h => by simp [tgtIs] at h
  | _ :: _, [], _, h => by simp [tgtIs] at h
  | i :: l, e :: es, sc, h => by
    simp only [tgtIs, Bool.and_eq_true] at h
    simp [tgt_len h.2]
theorem assignEach_len : ∀ {es : List Expr} {l : List Nat} {sc : Scope}, tgtIs names sc l es = true → (assignEach es env).length = es.length ∧ (assignEach es env).findIdx? (·.1) = none
  | [], [], _, _ => ⟨rfl, rfl⟩
  | [], _ :: _, _, h => by simp [tgtIs] at h
  | _ :: _, [], _, h => by simp [tgtIs] at h
  | e :: es, i :: l, sc, h => by
    simp only [tgtIs, Bool.and_eq_true] at h
    obtain ⟨y, p, rfl, _⟩ := nameOk_inv h.1
    have ih := assignEach_len h.2
    rw [assignEach_name]
    refine ⟨by simp [ih.1], ?_⟩
    rw [List.findIdx?_cons]
    simp [ih.2]
theorem setMany_len : ∀ {l : List Nat} {ds : List D} {σ σ' : List Slot}, setMany l ds σ = some σ' → l.length = ds.length
  | [], [], _, _, _ => rfl
  | [], _ :: _, _, _, h => by simp [setMany] at h
  | _ :: _, [], _, _, h => by simp [setMany] at h
  | i :: l, d :: ds, σ, σ', h => by
    simp only [setMany] at h
    simp [setMany_len h]

theorem assign_ok (hn : names.Nodup) (he : EnvOk env) (hh : A.handled = none) {t : T} {e : Expr} {d : D} {v : Value} {σ' : List Slot} {Q : Unit → Shared → Prop}
    (hc : chkT names env.scope t e = true) (hs : setT t d σ = some σ') (x : SInv h₀ names env W m ow σ s.heap) (hr : Rep (Wall W env ow) s.heap d v)
    (hq : ∀ s', After h₀ names env W ow s σ' s' → Q () s') : wpAny (model prog w) A (assign e env v) Q (fun _ _ => False) s := by
  cases t with
  | one i =>
    simp only [setT, Option.some.injEq] at hs
    subst hs
    exact assign_name hn he hc x hr hq
  | many l =>
    obtain ⟨es, kk, pos, e', hc⟩ := onTup_inv hc
    subst e'
    cases d <;> simp [setT] at hs
    rename_i ds
    unfold Rep at hr
    obtain ⟨a, vs, rfl, ha, ht, hl⟩ := hr
    have h1 := assignEach_len (env := env) hc
    have h2 := tgt_len hc
    have h3 := setMany_len hs.2
    refine wpAny_assign_Tuple hh ht (by rw [h1.1, ← h2, h3, List.size_toArray, hl.len]) h1.2 fun h' hx => ?_
    have keep : ∀ b o, s.heap.get? b = some o → h'.get? b = some o := fun b o e => hx b o (Nat.ne_of_lt (Heap.lt_size e)) e
    have k : Keeps s { s with heap := h' } := ⟨h', s.toks, rfl, keep⟩
    exact assign_many hn he l es ds vs σ σ' m ow _ Q hc hs.2 (x.keeps keep) (hl.keeps keep) fun s' a => hq s' (a.step (Step.ofKeeps k) (OwSub.refl _ _))
end
end Mine

namespace Mine
open PySem PySem.W PySem.Calls PyProof.Rows PySem.SeqAt

noncomputable def isComp (e : Expr) : Bool := Nat.beq e.ctorIdx 8 || Nat.beq e.ctorIdx 9 || Nat.beq e.ctorIdx 10
noncomputable def isTupleE (e : Expr) : Bool := Nat.beq e.ctorIdx 25
noncomputable def swapOk (ts : List Expr) (e : Expr) : Bool := !isTupleE e || onTup e fun vs _ _ => !(ts.length == 2 || ts.length == 3) || vs.all (foldedForSure 8)
noncomputable def noShadow (y : PySem.Str) (e : Expr) : Bool := onComp e fun _ _ sc _ => !(sc.names.any fun (n, k) => n == y && (k == .local || k == .cell))
noncomputable def isFreeze : XS → Bool
  | .freeze _ => true
  | _ => false

noncomputable def ownOk (names : List PySem.Str) (sc : Scope) (i : Nat) (y : PySem.Str) : Bool := names[i]? == some y && !(y == debugS) && sc.names.lookup y == some .local

mutual
noncomputable def chkX (names fn : List PySem.Str) (sc : Scope) : XS → Stmt → Bool
  | .newl i, st => onSAssign st fun ts v _ => onOne ts fun t => onName t fun y _ => onLst v fun es _ => es.isEmpty && ownOk names sc i y
  | .assign i e, st => onSAssign st fun ts v _ => onOne ts fun t => nameOk names sc i t && !isComp v && chkE names fn e sc none v
  | .assignC i e, st => onSAssign st fun ts v _ => onOne ts fun t => onName t fun y py => ownOk names sc i y && noShadow y v && py.line == v.pos.line && Nat.beq e.ctorIdx 22 && chkE names fn e sc none v
  | .unpack l e, st => onSAssign st fun ts v _ => onOne ts fun t => onTup t fun ts _ _ => tgtIs names sc l ts && !isComp v && swapOk ts v && chkE names fn e sc none v
  | .aug i e, st => onSAug st fun t o v _ => decide (o = .Sub) && onName t fun y _ => chkE names fn (.var i) sc none t && nameOk names sc i t && chkE names fn e sc none v
  | .append i e, st => onSExpr st fun c _ => onCall c fun g es ks pos => ks.isEmpty && onOne es fun v => onAttr g fun o a apos => onName o fun y _ => ownOk names sc i y && a == "append" && apos.endLine == pos.line && chkE names fn e sc none v
  | .extend i e, st => onSExpr st fun c _ => onCall c fun g es ks pos => ks.isEmpty && onOne es fun v => onAttr g fun o a apos => onName o fun y _ => ownOk names sc i y && a == "extend" && apos.endLine == pos.line && chkE names fn e sc none v
  | .freeze _, _ => false
  | .for_ t src body, st => onSFor st fun tg it b l _ => l.isEmpty && (chkT names sc t tg && chkE names fn src sc none it && chkS names fn sc body b)
  | .while_ t body, st => onSWhile st fun te b l _ => l.isEmpty && (chkE names fn t sc none te && chkS names fn sc body b)
  | .ite t a b, st => onSIf st fun te x y _ => chkE names fn t sc none te && chkS names fn sc a x && chkS names fn sc b y
  | .ret e, st => onSRet st fun v _ => v.any fun v => chkE names fn e sc none v
  | .cont, st => onSCont st fun _ => true
  | .stop, _ => true
noncomputable def chkS (names fn : List PySem.Str) (sc : Scope) : List XS → List Stmt → Bool
  | [], ss => ss.isEmpty
  | x :: xs, ss => if isFreeze x then chkS names fn sc xs ss else match ss with
    | st :: ss => chkX names fn sc x st && chkS names fn sc xs ss
    | [] => false
end

noncomputable def Post (h₀ : Heap) (names : List PySem.Str) (env : Env) (W : AddrSet) (ow : Nat → Option Addr) (s : Shared) : Out → Flow → Shared → Prop
  | .next σ', f, s' => f = .next ∧ After h₀ names env W ow s σ' s'
  | .cont σ', f, s' => f = .cont ∧ After h₀ names env W ow s σ' s'
  | .ret d, f, s' => ∃ v, f = .ret v ∧ Step (Own env ow) s s' ∧ Rep W s'.heap d v

section
variable {prog : Program} {w : World} {A : Around} {h₀ : Heap} {mg mb : PySem.Str → Option Value} {fa : Nat → Addr} {names fn : List PySem.Str} {F : FTab} {k wf : Nat}
variable {env : Env} {W : AddrSet} {m : PySem.Str → Option Value} {ow : Nat → Option Addr} {σ : List Slot} {h h' : Heap} {s : Shared}

theorem Post.step {ow' : Nat → Option Addr} {s s' : Shared} (st : Step (Own env ow) s s') (ws : OwSub s.heap ow ow') {o : Out} {f : Flow} {s'' : Shared} (p : Post h₀ names env W ow' s' o f s'') : Post h₀ names env W ow s o f s'' := by
  cases o with
  | next σ' => exact ⟨p.1, p.2.step st ws⟩
  | cont σ' => exact ⟨p.1, p.2.step st ws⟩
  | ret d =>
    obtain ⟨v, e, st', r⟩ := p
    exact ⟨v, e, st.trans st' fun b o e n => own_not ws e n, r⟩

theorem rep_wall {d : D} {v : Value} {hp : Heap} (r : Rep (Wall W env ow) hp d v) : Rep W hp d v := Rep.mono (fun a q => .inl q) (fun a o _ e => e) d v r

/-- the statement's meaning, as an assumption on a block -/
noncomputable def BlockOk (prog : Program) (w : World) (A : Around) (h₀ : Heap) (names : List PySem.Str) (env : Env) (g : List Slot → Option Out) (b : List Stmt) : Prop :=
  ∀ (W : AddrSet) (m : PySem.Str → Option Value) (ow : Nat → Option Addr) (σ : List Slot) (s : Shared) (o : Out) (Q : Flow → Shared → Prop), g σ = some o → SInv h₀ names env W m ow σ s.heap →
    (∀ f s', Post h₀ names env W ow s o f s' → Q f s') → wpAny (model prog w) A (execs b env) Q (fun _ _ => False) s

theorem while_ok {te : Expr} {t : X} {b : List Stmt} {pos : Pos} {g : List Slot → Option Out}
    (gt : ∀ σ, TrOk prog w A h₀ names F σ env none t te) (gb : BlockOk prog w A h₀ names env g b) {o : Out} {Q : Flow → Shared → Prop}
    (ho : whileL (fun σ => evE F σ none t) g wf σ = some o) (x : SInv h₀ names env W m ow σ s.heap) (hq : ∀ f s', Post h₀ names env W ow s o f s' → Q f s') :
    wpAny (model prog w) A (exec (.While te b [] pos) env) Q (fun _ _ => False) s := by
  refine wpAny_While (codeAny_whileLoop (fun n s' => ∃ σ' m' ow', whileL (fun σ => evE F σ none t) g n σ' = some o ∧ Step (Own env ow) s s' ∧ OwSub s.heap ow ow' ∧ SInv h₀ names env W m' ow' σ' s'.heap) ?_ wf
    ⟨σ, m, ow, ho, Step.refl _ _, OwSub.refl _ _, x⟩)
  rintro n s' ⟨σ', m', ow', hw, st, ws, x'⟩
  cases n with
  | zero => simp [whileL] at hw
  | succ n =>
    simp only [whileL] at hw
    split at hw
    · rename_i ht
      refine wpAny_mono (gt σ' (Wall W env ow') s' true (fun b s₁ => b = true ∧ Keeps s' s₁) ht x'.einv fun s₁ k₁ => ⟨rfl, k₁⟩) (fun b s₁ q => ?_) fun _ _ q => q.elim
      obtain ⟨rfl, k₁⟩ := q
      simp only [if_true]
      have x₁ := x'.keeps (Keeps.get k₁)
      have st₁ : Step (Own env ow) s s₁ := st.trans (Step.ofKeeps (Y := Own env ow') k₁) fun b o e n => own_not ws e n
      split at hw
      · rename_i σ₂ hb
        refine wpAny_mono (gb W m' ow' σ' s₁ _ (fun f s₂ => Post h₀ names env W ow' s₁ (.next σ₂) f s₂) hb x₁ fun _ _ p => p) (fun f s₂ p => ?_) fun _ _ q => q.elim
        obtain ⟨rfl, m₂, ow₂, st₂, ws₂, x₂⟩ := p
        exact ⟨n, Nat.lt_succ_self n, σ₂, m₂, ow₂, hw, st₁.trans st₂ fun b o e n => own_not ws e n, ws.trans st₁ ws₂, x₂⟩
      · rename_i σ₂ hb
        refine wpAny_mono (gb W m' ow' σ' s₁ _ (fun f s₂ => Post h₀ names env W ow' s₁ (.cont σ₂) f s₂) hb x₁ fun _ _ p => p) (fun f s₂ p => ?_) fun _ _ q => q.elim
        obtain ⟨rfl, m₂, ow₂, st₂, ws₂, x₂⟩ := p
        exact ⟨n, Nat.lt_succ_self n, σ₂, m₂, ow₂, hw, st₁.trans st₂ fun b o e n => own_not ws e n, ws.trans st₁ ws₂, x₂⟩
      · rename_i d hb
        cases hw
        refine wpAny_mono (gb W m' ow' σ' s₁ _ (fun f s₂ => Post h₀ names env W ow' s₁ (.ret d) f s₂) hb x₁ fun _ _ p => p) (fun f s₂ p => ?_) fun _ _ q => q.elim
        obtain ⟨v, rfl, st₂, r⟩ := p
        exact hq _ _ ⟨v, rfl, st₁.trans st₂ fun b o e n => own_not ws e n, r⟩
      · cases hw
    · rename_i ht
      cases hw
      refine wpAny_mono (gt σ' (Wall W env ow') s' false (fun b s₁ => b = false ∧ Keeps s' s₁) ht x'.einv fun s₁ k₁ => ⟨rfl, k₁⟩) (fun b s₁ q => ?_) fun _ _ q => q.elim
      obtain ⟨rfl, k₁⟩ := q
      simp only [Bool.false_eq_true, if_false]
      have x₁ := x'.keeps (Keeps.get k₁)
      have st₁ : Step (Own env ow) s s₁ := st.trans (Step.ofKeeps (Y := Own env ow') k₁) fun b o e n => own_not ws e n
      exact wpAny_execs_nil (hq _ _ ⟨rfl, m', ow', st₁, ws, x₁⟩)
    · cases hw

theorem letGo_ok {t : T} {tg : Expr} {d : D} {v : Value} {I : Addr} {hp : AddrSet} {s : Shared} {Q : Unit → Shared → Prop} {E : Value → Shared → Prop} (hc : chkT names env.scope t tg = true) (σ σ' : List Slot) (hs : setT t d σ = some σ') (hr : Rep hp s.heap d v)
    (hI : (∃ l, t = .many l) → ∃ ax i, s.heap.IsListIter I ax i) (h : Q () s) : wpAny (model prog w) A (letOwnedTupleGo tg (.ref I) v) Q E s := by
  cases t with
  | one i =>
    obtain ⟨y, p, rfl, _⟩ := nameOk_inv hc
    exact wpAny_pure h
  | many l =>
    obtain ⟨_, _, _, rfl, _⟩ := onTup_inv hc
    cases d <;> simp [setT] at hs
    unfold Rep at hr
    obtain ⟨a, vs, rfl, _⟩ := hr
    obtain ⟨ax, i, hit⟩ := hI ⟨l, rfl⟩
    exact wpAny_letOwnedTupleGo_listiter hit h

theorem SInv.addW {ob : Obj} (x : SInv h₀ names env W m ow σ h) (hob : ∃ o', (h.push ob).get? h.objs.size = some o') : SInv h₀ names env (fun a => W a ∨ a = h.objs.size) m ow σ (h.push ob) := by
  have ne : ∀ a o, h.get? a = some o → a ≠ h.objs.size := fun a o e => Nat.ne_of_lt (Heap.lt_size e)
  have kp : ∀ a o, h.get? a = some o → (h.push ob).get? a = some o := fun _ _ e => Heap.get?_push_of_some _ e
  have upW : ∀ a o, ¬ Wall W env ow a → h.get? a = some o → ¬ Wall (fun a => W a ∨ a = h.objs.size) env ow a ∧ (h.push ob).get? a = some o := fun a o n e =>
    ⟨fun q => by
      rcases q with (q | q) | q
      · exact n (.inl q)
      · exact ne a o e q
      · exact n (.inr q), kp a o e⟩
  have y := x.keeps kp
  constructor
  · exact y.base
  · rintro a (q | q)
    · exact y.wok a q
    · subst q; exact hob
  · exact y.ns
  · exact y.lnew
  · rintro (q | q)
    · exact x.lW q
    · obtain ⟨o, _, _, e, _⟩ := x.ns
      exact ne _ _ e q
  · intro z c e
    obtain ⟨a, b, c', v, d⟩ := y.cW z c e
    refine ⟨?_, b, c', v, d⟩
    rintro (q | q)
    · exact a q
    · obtain ⟨_, _, _, v', o, e', _⟩ := x.cW z c e
      exact ne _ _ e' q
  · exact y.cinj
  · intro i a e
    obtain ⟨a1, a2, a3, a4, ds, a5⟩ := y.oW i a e
    refine ⟨?_, a2, a3, a4, ds, a5⟩
    rintro (q | q)
    · exact a1 q
    · obtain ⟨z, b, vs', h1, h2, h3, h4, ⟨n, h5⟩, h6⟩ := x.own i ds a5
      rw [e] at h3; cases h3
      exact ne _ _ h5 q
  · exact y.oinj
  · exact fun i ds e => let ⟨z, a, vs, h1, h2, h3, h4, h5, h6⟩ := x.own i ds e; ⟨z, a, vs, h1, h2, h3, h4, h5.at fun o e => kp _ _ e, RepL.mono2 upW _ _ h6⟩
  · exact fun i z d h1 h2 h3 => let ⟨v, a, b⟩ := x.loc i z d h1 h2 h3; ⟨v, a, Rep.mono2 upW _ _ b⟩
  · exact fun i z d h1 h2 h3 => let ⟨c, v, a, ⟨o, ho, b⟩, e⟩ := x.cel i z d h1 h2 h3; ⟨c, v, a, ⟨o, kp _ _ ho, b⟩, Rep.mono2 upW _ _ e⟩

theorem SInv.dropW {W' : AddrSet} (x : SInv h₀ names env W' m ow σ h) (hW : ∀ a, W a → W' a) : SInv h₀ names env W m ow σ h := by
  have hw : ∀ a, Wall W env ow a → Wall W' env ow a := fun a q => q.elim (fun q => .inl (hW a q)) .inr
  constructor
  · exact x.base
  · exact fun a q => x.wok a (hW a q)
  · exact x.ns
  · exact x.lnew
  · exact fun q => x.lW (hW _ q)
  · exact fun z c e => let ⟨a, b⟩ := x.cW z c e; ⟨fun q => a (hW _ q), b⟩
  · exact x.cinj
  · exact fun i a e => let ⟨a1, b⟩ := x.oW i a e; ⟨fun q => a1 (hW _ q), b⟩
  · exact x.oinj
  · exact fun i ds e => let ⟨z, a, vs, h1, h2, h3, h4, h5, h6⟩ := x.own i ds e; ⟨z, a, vs, h1, h2, h3, h4, h5, RepL.mono hw (fun _ _ _ e => e) _ _ h6⟩
  · exact fun i z d h1 h2 h3 => let ⟨v, a, b⟩ := x.loc i z d h1 h2 h3; ⟨v, a, Rep.mono hw (fun _ _ _ e => e) _ _ b⟩
  · exact fun i z d h1 h2 h3 => let ⟨c, v, a, b, e⟩ := x.cel i z d h1 h2 h3; ⟨c, v, a, b, Rep.mono hw (fun _ _ _ e => e) _ _ e⟩

theorem SInv.notOwn {I : Addr} (x : SInv h₀ names env W m ow σ h) (hI : W I) : ¬ Own env ow I := by
  rintro (q | ⟨y, q⟩ | ⟨i, q⟩)
  · exact x.lW (q ▸ hI)
  · exact (x.cW y I q).1 hI
  · exact (x.oW i I q).1 hI

theorem SInv.chW {I : Addr} (x : SInv h₀ names env W m ow σ h) (hI : W I) (hI0 : h₀.get? I = none) (up : ∀ b o, b ≠ I → h.get? b = some o → h'.get? b = some o) (al : ∃ o, h'.get? I = some o) : SInv h₀ names env W m ow σ h' := by
  have nw : ∀ {a : Addr}, ¬ W a → a ≠ I := fun n q => n (q ▸ hI)
  have upW : ∀ a o, ¬ Wall W env ow a → h.get? a = some o → ¬ Wall W env ow a ∧ h'.get? a = some o := fun a o n e => ⟨n, up a o (nw fun q => n (.inl q)) e⟩
  constructor
  · exact fun b o e => up b o (fun q => by rw [q, hI0] at e; cases e) (x.base b o e)
  · intro a q
    by_cases e : a = I
    · subst e; exact al
    · obtain ⟨o, ho⟩ := x.wok a q
      exact ⟨o, up a o e ho⟩
  · exact x.ns.at' fun o e => up _ o (nw x.lW) e
  · exact x.lnew
  · exact x.lW
  · exact fun z c e => let ⟨a, b, c', v, o, ho, hd⟩ := x.cW z c e; ⟨a, b, c', v, o, up c o (nw a) ho, hd⟩
  · exact x.cinj
  · exact x.oW
  · exact x.oinj
  · exact fun i ds e => let ⟨z, a, vs, h1, h2, h3, h4, h5, h6⟩ := x.own i ds e; ⟨z, a, vs, h1, h2, h3, h4, h5.at fun o e => up a o (nw (x.oW i a h3).1) e, RepL.mono2 upW _ _ h6⟩
  · exact fun i z d h1 h2 h3 => let ⟨v, a, b⟩ := x.loc i z d h1 h2 h3; ⟨v, a, Rep.mono2 upW _ _ b⟩
  · exact fun i z d h1 h2 h3 => let ⟨c, v, a, ⟨o, ho, b⟩, e⟩ := x.cel i z d h1 h2 h3; ⟨c, v, a, ⟨o, up c o (nw (x.cW z c a).1) ho, b⟩, Rep.mono2 upW _ _ e⟩

theorem SInv.chD {W' : AddrSet} {I : Addr} (x : SInv h₀ names env W' m ow σ h) (hI : W' I) (hI0 : h₀.get? I = none) (hW : ∀ a, W a → W' a) (hn : ¬ W I) (up : ∀ b o, b ≠ I → h.get? b = some o → h'.get? b = some o) : SInv h₀ names env W m ow σ h' := by
  have nw : ∀ {a : Addr}, ¬ W' a → a ≠ I := fun n q => n (q ▸ hI)
  have upW : ∀ a o, ¬ Wall W' env ow a → h.get? a = some o → ¬ Wall W env ow a ∧ h'.get? a = some o := fun a o n e =>
    ⟨fun q => n (q.elim (fun q => .inl (hW a q)) .inr), up a o (nw fun q => n (.inl q)) e⟩
  constructor
  · exact fun b o e => up b o (fun q => by rw [q, hI0] at e; cases e) (x.base b o e)
  · intro a q
    obtain ⟨o, ho⟩ := x.wok a (hW a q)
    exact ⟨o, up a o (fun e => hn (e ▸ q)) ho⟩
  · exact x.ns.at' fun o e => up _ o (nw x.lW) e
  · exact x.lnew
  · exact fun q => x.lW (hW _ q)
  · exact fun z c e => let ⟨a, b, c', v, o, ho, hd⟩ := x.cW z c e; ⟨fun q => a (hW _ q), b, c', v, o, up c o (nw a) ho, hd⟩
  · exact x.cinj
  · exact fun i a e => let ⟨a1, b⟩ := x.oW i a e; ⟨fun q => a1 (hW _ q), b⟩
  · exact x.oinj
  · exact fun i ds e => let ⟨z, a, vs, h1, h2, h3, h4, h5, h6⟩ := x.own i ds e; ⟨z, a, vs, h1, h2, h3, h4, h5.at fun o e => up a o (nw (x.oW i a h3).1) e, RepL.mono2 upW _ _ h6⟩
  · exact fun i z d h1 h2 h3 => let ⟨v, a, b⟩ := x.loc i z d h1 h2 h3; ⟨v, a, Rep.mono2 upW _ _ b⟩
  · exact fun i z d h1 h2 h3 => let ⟨c, v, a, ⟨o, ho, b⟩, e⟩ := x.cel i z d h1 h2 h3; ⟨c, v, a, ⟨o, up c o (nw (x.cW z c a).1) ho, b⟩, Rep.mono2 upW _ _ e⟩

theorem for_ok (hn : names.Nodup) (he : EnvOk env) (hh : A.handled = none) {t : T} {tg it : Expr} {src : X} {b : List Stmt} {pos : Pos} {g : List Slot → Option Out}
    (hc : chkT names env.scope t tg = true) (gs : Good prog w A h₀ names F σ env none src it) (gb : BlockOk prog w A h₀ names env g b) {d : D} {l : List D} {o : Out} {Q : Flow → Shared → Prop}
    (hd : evE F σ none src = some d) (hl : itemsFor t d = some l)
    (ho : forL (fun d σ => match setT t d σ with | some σ' => g σ' | none => none) l σ = some o) (x : SInv h₀ names env W m ow σ s.heap) (hq : ∀ f s', Post h₀ names env W ow s o f s' → Q f s') :
    wpAny (model prog w) A (exec (.For tg it b [] pos) env) Q (fun _ _ => False) s := by
  have hli : itemsOf d = some l := by
    cases t with
    | one i => exact hl
    | many l' => cases d <;> first | exact hl | (simp [itemsFor] at hl)
  have hlist : (∃ l, t = .many l) → ∃ l0, d = .lst l0 := by
    rintro ⟨l', rfl⟩
    cases d <;> first | exact ⟨_, rfl⟩ | (simp [itemsFor] at hl)
  refine wpAny_For (gs.ev (Wall W env ow) s d _ hd x.einv fun v s₁ k₁ r₁ => ?_) (folded_plain gs.set)
  have x₁ := x.keeps (Keeps.get k₁)
  refine iter_ok hh x₁.wall r₁ hli fun ob P St fp hW hsz hfp hst hP hlet hal => ?_
  have x₂ := x₁.addW (hal 0 _ hst)
  have kp : ∀ a o', s₁.heap.get? a = some o' → (s₁.heap.push ob).get? a = some o' := fun _ _ e => Heap.get?_push_of_some _ e
  have hIf : s₁.heap.get? s₁.heap.objs.size = none := by
    cases q : s₁.heap.get? s₁.heap.objs.size with
    | none => rfl
    | some o' => exact absurd (Heap.lt_size q) (Nat.lt_irrefl _)
  generalize hI : s₁.heap.objs.size = I at *
  generalize hs₂ : ({ s₁ with heap := s₁.heap.push ob } : Shared) = s₂ at *
  have e₂ : s₂.heap = s₁.heap.push ob := by rw [← hs₂]
  rw [← e₂] at x₂ kp hst
  have k₂ : Keeps s₁ s₂ := ⟨s₁.heap.push ob, s₁.toks, by rw [← hs₂], by rw [← e₂]; exact kp⟩
  let W₂ : AddrSet := fun a => W a ∨ a = I
  let Y₂ : AddrSet := fun a => Own env ow a ∨ a = I
  have hW₂ : ∀ a, W a → W₂ a := fun a q => .inl q
  have toY : ∀ {s' : Shared}, Step Y₂ s₂ s' → Step (Own env ow) s s' := fun {s'} st => by
    refine (Step.ofKeeps (Y := Own env ow) k₁).trans ((Step.ofKeeps (Y := Y₂) k₂).trans st fun _ _ _ n => n) fun b o e n => ?_
    rintro (q | q)
    · exact n q
    · have := Keeps.get k₁ b o e
      rw [q, hIf] at this; cases this
  have toS : ∀ {ow' : Nat → Option Addr}, OwSub s₂.heap ow ow' → OwSub s.heap ow ow' := fun {ow'} ws =>
    (OwSub.refl s.heap ow).trans ((Step.ofKeeps (Y := Own env ow) k₁).trans (Step.ofKeeps (Y := Own env ow) k₂) fun _ _ _ n => n) ws
  have stF : ∀ {i : Nat} {s' s'' : Shared} {m' : PySem.Str → Option Value} {ow' : Nat → Option Addr} {σ' : List Slot}, St i s'.heap → Step Y₂ s₂ s' → OwSub s₂.heap ow ow' → SInv h₀ names env W₂ m' ow' σ' s'.heap →
      Step (Own env ow') s' s'' → St i s''.heap := by
    intro i s' s'' m' ow' σ' hst st ws xs st'
    refine hW.frame i _ _ hst fun b hb o e => st'.kept b o e ?_
    rcases hfp b hb with rfl | ⟨q1, o', q2⟩
    · exact xs.notOwn (.inr rfl)
    · exact own_not ws (kp b o' q2) fun q => q1 (.inr q)
  have stT : ∀ {s' s'' : Shared} {ow' : Nat → Option Addr}, Step Y₂ s₂ s' → OwSub s₂.heap ow ow' → Step (Own env ow') s' s'' → Step Y₂ s₂ s'' := fun st ws st' =>
    st.trans st' fun b o e n => own_not ws e fun q => n (.inl q)
  have subT : ∀ {s' : Shared} {ow' ow'' : Nat → Option Addr}, Step Y₂ s₂ s' → OwSub s₂.heap ow ow' → OwSub s'.heap ow' ow'' → OwSub s₂.heap ow ow'' := fun st ws ws' => ws.trans st ws'
  refine codeAny_forLoop_any (fun n s' => ∃ i σ' m' ow', i ≤ l.length ∧ n = l.length + 1 - i ∧ St i s'.heap ∧
    forL (fun d σ => match setT t d σ with | some σ' => g σ' | none => none) (l.drop i) σ' = some o ∧ Step Y₂ s₂ s' ∧ OwSub s₂.heap ow ow' ∧ SInv h₀ names env W₂ m' ow' σ' s'.heap) ?_ (l.length + 1)
    ⟨0, σ, m, ow, Nat.zero_le _, rfl, hst, ho, Step.refl _ _, OwSub.refl _ _, x₂⟩
  rintro n s' ⟨i, σ', m', ow', hi, rfl, hst', hf, st', ws', x'⟩
  have hI0 : h₀.get? I = none := by
    cases q : h₀.get? I with
    | none => rfl
    | some o' => have := x₁.base I o' q; rw [hIf] at this; cases this
  have ch : ∀ {j : Nat} {h' : Heap} {tk : Nat}, St j h' → (∀ b o, b ∉ [I] → s'.heap.get? b = some o → h'.get? b = some o) →
      SInv h₀ names env W₂ m' ow' σ' h' ∧ Step Y₂ s₂ { s' with heap := h', toks := tk } ∧ Step (fun a => a = I) s' { s' with heap := h', toks := tk } := by
    intro j h' tk hs hch
    have up : ∀ b o, b ≠ I → s'.heap.get? b = some o → h'.get? b = some o := fun b o n e => hch b o (by simpa using n) e
    have st1 : Step (fun a => a = I) s' { s' with heap := h', toks := tk } := ⟨h', tk, rfl, fun b o e n => up b o n e, fun b o e => by
      by_cases q : b = I
      · subst q; exact hal j h' hs
      · exact ⟨o, up b o q e⟩⟩
    exact ⟨x'.chW (.inr rfl) hI0 up (hal j h' hs), st'.trans st1 fun b o e n q => n (.inr q), st1⟩
  by_cases hlt : i < l.length
  · refine hW.item i s' _ _ hlt hst' fun v h' tk hPv hst'' hch => ?_
    obtain ⟨d', hd', r'⟩ := hP i v hPv
    obtain ⟨x₃, st₃, st₃'⟩ := ch (tk := tk) hst'' hch
    have ws₃ := ws'
    generalize hs₃ : ({ s' with heap := h', toks := tk } : Shared) = s₃ at *
    have e₃ : h' = s₃.heap := by rw [← hs₃]
    rw [e₃] at x₃ hst''
    clear hch
    have r₃ : Rep (Wall W₂ env ow') s₃.heap d' v := by
      refine Rep.mono2 (fun a o n e => ?_) d' v r'
      have e2 := kp a o e
      have nI : a ≠ I := fun q => by rw [q, hIf] at e; cases e
      have nO : ¬ Own env ow a := fun q => n (.inr q)
      refine ⟨?_, st₃.kept a o e2 ?_⟩
      · rintro ((q | q) | q)
        · exact n (.inl q)
        · exact nI q
        · exact own_not ws₃ e2 nO q
      · rintro (q | q)
        · exact nO q
        · exact nI q
    rw [List.drop_eq_getElem_cons hlt] at hf
    have hd'' : l[i] = d' := by
      have := List.getElem?_eq_getElem hlt
      rw [hd'] at this
      exact (Option.some.inj this).symm
    rw [hd''] at hf
    simp only [forL] at hf
    cases hset : setT t d' σ' with
    | none => rw [hset] at hf; cases hf
    | some σ₄ =>
      rw [hset] at hf
      simp only at hf
      refine letGo_ok hc σ' σ₄ hset r₃ (fun hm => ?_) ?_
      · obtain ⟨ax, q⟩ := hlet (hlist hm) (i + 1) _ hst''
        exact ⟨ax, _, q⟩
      refine wpAny_mono (assign_ok (Q := fun _ s₄ => After h₀ names env W₂ ow' s₃ σ₄ s₄) hn he hh hc hset x₃ r₃ fun s₄ a => a) (fun _ s₄ a => ?_) fun _ _ q => q.elim
      obtain ⟨m₄, ow₄, st₄, ws₄, x₄⟩ := a
      have hst₄ := stF hst'' st₃ ws₃ x₃ st₄
      have stT₄ := stT st₃ ws₃ st₄
      have subT₄ := subT st₃ ws₃ ws₄
      cases hb : g σ₄ with
      | none => rw [hb] at hf; cases hf
      | some o₅ =>
        rw [hb] at hf
        refine wpAny_mono (gb W₂ m₄ ow₄ σ₄ s₄ o₅ (fun f s₅ => Post h₀ names env W₂ ow₄ s₄ o₅ f s₅) hb x₄ fun _ _ p => p) (fun f s₅ p => ?_) fun _ _ q => q.elim
        cases o₅ with
        | next σ₅ =>
          obtain ⟨rfl, m₅, ow₅, st₅, ws₅, x₅⟩ := p
          exact ⟨l.length + 1 - (i + 1), by omega, i + 1, σ₅, m₅, ow₅, hlt, rfl, stF hst₄ stT₄ subT₄ x₄ st₅, hf, stT stT₄ subT₄ st₅, subT stT₄ subT₄ ws₅, x₅⟩
        | cont σ₅ =>
          obtain ⟨rfl, m₅, ow₅, st₅, ws₅, x₅⟩ := p
          exact ⟨l.length + 1 - (i + 1), by omega, i + 1, σ₅, m₅, ow₅, hlt, rfl, stF hst₄ stT₄ subT₄ x₄ st₅, hf, stT stT₄ subT₄ st₅, subT stT₄ subT₄ ws₅, x₅⟩
        | ret d₅ =>
          obtain ⟨v₅, rfl, st₅, r₅⟩ := p
          simp only [Option.some.injEq] at hf
          subst hf
          exact hq _ _ ⟨v₅, rfl, toY (stT stT₄ subT₄ st₅), Rep.mono hW₂ (fun _ _ _ e => e) _ _ r₅⟩
  · have hie : i = l.length := Nat.le_antisymm hi (Nat.le_of_not_lt hlt)
    subst hie
    rw [List.drop_length] at hf
    simp only [forL, Option.some.injEq] at hf
    subst hf
    refine hW.done s' _ _ hst' fun h' tk hch => wpAny_execs_nil ?_
    have up : ∀ b o, b ≠ I → s'.heap.get? b = some o → h'.get? b = some o := fun b o n e => hch b o (by simpa using n) e
    have nWI : ¬ W I := fun q => by obtain ⟨o, e⟩ := x₁.wok I q; rw [hIf] at e; cases e
    have sI : ∀ b o, s.heap.get? b = some o → b ≠ I := fun b o e q => by
      have := Keeps.get k₁ b o e
      rw [q, hIf] at this; cases this
    have stE := toY st'
    refine hq _ _ ⟨rfl, m', ow', ?_, toS ws', x'.chD (.inr rfl) hI0 hW₂ nWI up⟩
    obtain ⟨h1, tk1, rfl, kept, live⟩ := stE
    refine ⟨h', tk, rfl, fun b o e n => up b o (sI b o e) (kept b o e n), fun b o e => ?_⟩
    obtain ⟨o', e'⟩ := live b o e
    exact ⟨o', up b o' (sI b o e) e'⟩
end
end Mine

namespace Mine
open PySem PySem.W PySem.Calls PyProof.Rows PySem.SeqAt

section
variable {prog : Program} {w : World} {A : Around} {h₀ : Heap} {mg mb : PySem.Str → Option Value} {fa : Nat → Addr} {names fn : List PySem.Str} {F : FTab} {k wf : Nat}
variable {env : Env} {W : AddrSet} {m : PySem.Str → Option Value} {ow : Nat → Option Addr} {σ : List Slot} {h h' : Heap} {s : Shared}

/-- a statement's meaning -/
noncomputable def StOk (prog : Program) (w : World) (A : Around) (h₀ : Heap) (names : List PySem.Str) (env : Env) (g : List Slot → Option Out) (st : Stmt) : Prop :=
  ∀ (W : AddrSet) (m : PySem.Str → Option Value) (ow : Nat → Option Addr) (σ : List Slot) (s : Shared) (o : Out) (Q : Flow → Shared → Prop), g σ = some o → SInv h₀ names env W m ow σ s.heap →
    (∀ f s', Post h₀ names env W ow s o f s' → Q f s') → wpAny (model prog w) A (exec st env) Q (fun _ _ => False) s

theorem ownOk_inv {sc : Scope} {i : Nat} {y : PySem.Str} (h : ownOk names sc i y = true) : names[i]? = some y ∧ (y == debugS) = false ∧ sc.names.lookup y = some .local := by
  unfold ownOk at h
  simp only [Bool.and_eq_true, beq_iff_eq, Bool.not_eq_true'] at h
  exact ⟨h.1.1, h.1.2, h.2⟩

theorem swapsWith_no {v : Expr} {t : Expr} {n : Nat} (h : isComp v = false) : swapsWith v (some t) n env = pure false := by
  cases v <;> first | rfl | exact falseNot h.symm

theorem interactive_no (he : EnvOk env) : interactive env = false := by
  unfold interactive
  rw [he.kind]; rfl

theorem newl_ok (hn : names.Nodup) (he : EnvOk env) {i : Nat} {y : PySem.Str} {p p2 pos : Pos} (hc : ownOk names env.scope i y = true) :
    StOk prog w A h₀ names env (fun σ => exX F wf σ (.newl i)) (.Assign [.Name y p] (.List [] p2) pos) := by
  intro W m ow σ s o Q ho x hq
  obtain ⟨hy, _, hl⟩ := ownOk_inv hc
  simp only [exX] at ho
  split at ho
  · rename_i hi
    cases ho
    refine wpAny_Assign_Name (List_ ?_) rfl
    refine wpAny_pure (wpAny_newList ?_ (by simp))
    have hfree : s.heap.get? s.heap.objs.size = none := by
      cases q : s.heap.get? s.heap.objs.size with
      | none => rfl
      | some o' => exact absurd (Heap.lt_size q) (Nat.lt_irrefl _)
    have kp : ∀ a o', s.heap.get? a = some o' → (s.heap.push { cls := .type "list", data := .seq ([] : List Value).toArray }).get? a = some o' := fun _ _ e => Heap.get?_push_of_some _ e
    refine wpAny_storeName_local hl (x.ns.keeps kp) (fun h' hns hs => ?_) (by rw [he.kind]; rfl)
    have hneL : s.heap.objs.size ≠ env.locals := fun e => by
      obtain ⟨o, _, _, e2, _⟩ := x.ns
      rw [← e, hfree] at e2; cases e2
    have up : ∀ b o', b ≠ env.locals → s.heap.get? b = some o' → h'.get? b = some o' := fun b o' n e => hs.extBut b o' n (kp b o' e)
    have hp : h'.PlainList s.heap.objs.size #[] := ⟨_, hs.extBut _ _ hneL (Heap.get?_push_size _ rfl)⟩
    refine hq _ _ ⟨rfl, _, _, ⟨h', _, rfl, fun b o' e n => up b o' (fun q => n (.inl q)) e, fun b o' e => ?_⟩, ?_, new_own hn x hy hl hi hfree hp hns up⟩
    · by_cases hb : b = env.locals
      · subst hb
        obtain ⟨o'', _, _, ho', _⟩ := hns
        exact ⟨o'', ho'⟩
      · exact ⟨o', up b o' hb e⟩
    · intro j a e
      unfold putOw at e
      by_cases hj : j = i
      · rw [if_pos hj] at e; cases e; exact .inr hfree
      · rw [if_neg hj] at e; exact .inl ⟨j, e⟩
  · cases ho

theorem set_ok (hn : names.Nodup) (he : EnvOk env) {i : Nat} {e : X} {t v : Expr} {pos : Pos} (hc : nameOk names env.scope i t = true) (hcv : isComp v = false) (g : ∀ σ, EvOk prog w A h₀ names F σ env none e v) :
    StOk prog w A h₀ names env (fun σ => exX F wf σ (.assign i e)) (.Assign [t] v pos) := by
  intro W m ow σ s o Q ho x hq
  obtain ⟨y, p, rfl, hy, hl⟩ := nameOk_inv hc
  simp only [exX] at ho
  split at ho
  · rename_i d hd
    cases ho
    refine wpAny_Assign_Name (g σ (Wall W env ow) s d _ hd x.einv fun v s₁ k₁ r₁ => ?_) (swapsWith_no hcv)
    refine store_ok hn he (x.keeps (Keeps.get k₁)) hy hl r₁ fun s' m' ow' st ws x' => ?_
    exact hq _ _ ⟨rfl, m', ow', (Step.ofKeeps (Y := Own env ow) k₁).trans st fun _ _ _ n => n, (OwSub.refl _ _).trans (Step.ofKeeps (Y := Own env ow) k₁) ws, x'⟩
  · cases ho

theorem unpack_ok (hn : names.Nodup) (he : EnvOk env) (hh : A.handled = none) {l : List Nat} {e : X} {ts : List Expr} {kk : Nat} {tp : Pos} {v : Expr} {pos : Pos} (hc : tgtIs names env.scope l ts = true) (hcv : isComp v = false)
    (hsw : swapOk ts v = true) (g : ∀ σ, EvOk prog w A h₀ names F σ env none e v) :
    StOk prog w A h₀ names env (fun σ => exX F wf σ (.unpack l e)) (.Assign [.Tuple ts kk tp] v pos) := by
  intro W m ow σ s o Q ho x hq
  simp only [exX] at ho
  split at ho
  · rename_i d hd
    split at ho
    · rename_i σ' hs
      cases ho
      refine PyProof.Rows.Assign_Tuple (g σ (Wall W env ow) s d _ hd x.einv fun v s₁ k₁ r₁ => ?_) (by show swapsWith v (some (.Tuple ts kk tp)) pos.line env = pure false; exact swapsWith_no hcv) ?_
      · refine assign_ok (t := .many l) hn he hh hc hs (x.keeps (Keeps.get k₁)) r₁ fun s' a => ?_
        exact hq _ _ ⟨rfl, a.step (Step.ofKeeps k₁) (OwSub.refl _ _)⟩
      · cases v <;> try rfl
        rename_i vs k2 p2
        have hsw := Bool.or_eq_true_iff.mp (show (!(ts.length == 2 || ts.length == 3) || vs.all (foldedForSure 8)) = true from hsw)
        unfold swappedStores
        simp only
        rcases hsw with hsw | hsw
        · rw [hsw]; rfl
        · simp only [hsw, if_true]
          split
          · rfl
          · split
            · rfl
            · split <;> rfl
    · cases ho
  · cases ho

theorem aug_ok (hn : names.Nodup) (he : EnvOk env) {i : Nat} {e : X} {y : PySem.Str} {p : Pos} {v : Expr} {pos : Pos} (hc : nameOk names env.scope i (.Name y p) = true)
    (gl : ∀ σ, EvOk prog w A h₀ names F σ env none (.var i) (.Name y p)) (hy : (y == debugS) = false) (g : ∀ σ, EvOk prog w A h₀ names F σ env none e v) :
    StOk prog w A h₀ names env (fun σ => exX F wf σ (.aug i e)) (.AugAssign (.Name y p) .Sub v pos) := by
  intro W m ow σ s o Q ho x hq
  obtain ⟨y', p', e', hy', hl⟩ := nameOk_inv hc
  cases e'
  simp only [exX] at ho
  split at ho
  · rename_i a hd
    split at ho
    · rename_i b hd2
      cases ho
      refine wpAny_AugAssign_Name ?_
      have hslot : σ[i]? = some (.val (.int a)) := by
        simp only [evE] at hd
        split at hd
        · rename_i d' hs'
          cases hd
          exact hs'
        · cases hd
      have rest : ∀ v₀, Rep (Wall W env ow) s.heap (.int a) v₀ → wpAny (model prog w) A (eval v env) (fun v s₂ => wpAny (model prog w) A (inplaceOp .Sub v₀ v)
          (fun r s₃ => wpAny (model prog w) A (storeName env y r) (fun _ => Q .next) (fun _ _ => False) s₃) (fun _ _ => False) s₂) (fun _ _ => False) s := fun v₀ r₀ => by
        refine g σ (Wall W env ow) s _ _ hd2 x.einv fun v₁ s₁ k₁ r₁ => ?_
        unfold Rep at r₀ r₁
        obtain ⟨t₀, rfl⟩ := r₀
        obtain ⟨t₁, rfl⟩ := r₁
        refine PyProof.Rows.isub_int ?_
        have k₂ : Keeps s { s₁ with toks := s₁.toks + 1 } := keeps_trans k₁ (keeps_tok _)
        refine store_ok hn he (x.keeps (Keeps.get k₂)) hy' hl (rep_int _ _) fun s' m' ow' st ws x' => ?_
        exact hq _ _ ⟨rfl, m', ow', (Step.ofKeeps (Y := Own env ow) k₂).trans st fun _ _ _ n => n, (OwSub.refl _ _).trans (Step.ofKeeps (Y := Own env ow) k₂) ws, x'⟩
      rcases hl with hl | hl
      · obtain ⟨v₀, h1, h2⟩ := x.loc i y _ hy' hslot hl
        exact wpAny_loadName_local he.kind hl x.ns h1 (rest v₀ h2)
      · obtain ⟨c, v₀, h0, h1, h2⟩ := x.cel i y _ hy' hslot hl
        exact wpAny_loadName_cell he.kind hl h0 h1 (rest v₀ h2)
    · cases ho
  · cases ho

theorem toList_push (l : List Value) (v : Value) : l.toArray.push v = (l ++ [v]).toArray := by simp

theorem append_ok (hn : names.Nodup) (he : EnvOk env) {i : Nat} {e : X} {y : PySem.Str} {p p2 : Pos} {apos pos : Pos} {v : Expr} (hc : ownOk names env.scope i y = true) (hline : (apos.endLine == pos.line) = true)
    (g : ∀ σ, Good prog w A h₀ names F σ env none e v) :
    StOk prog w A h₀ names env (fun σ => exX F wf σ (.append i e)) (.Expr (.Call (.Attribute (.Name y p) "append" apos) [v] [] pos) p2) := by
  intro W m ow σ s o Q ho x hq
  obtain ⟨hy, hd, hl⟩ := ownOk_inv hc
  simp only [exX] at ho
  split at ho
  · rename_i d hde
    split at ho
    · rename_i σ' ha
      cases ho
      unfold evAppend at ha
      split at ha
      · rename_i ds hs
        split at ha
        · rename_i hsz
          cases ha
          obtain ⟨z, a, vs, g1, g2, g3, g4, g5, g6⟩ := x.own i ds hs
          rw [hy] at g1; cases g1
          refine wpAny_Expr ?_ (interactive_no he) rfl
          refine wpAny_Call_method (T := "list") (id := "list.append") rfl ?_ hline PySem.F.plainAttrs_list PySem.F.slot_list_append PySem.F.type_list_append ?_
          · rw [starEach_cons (g σ).star]; rfl
          · refine wpAny_Name (wpAny_loadName_local he.kind hl x.ns g4 ?_) hd
            obtain ⟨n, hob⟩ := id g5
            refine ⟨g5.isList.typeIs, (fun a' e => by cases e; exact ⟨_, hob, rfl⟩), ?_⟩
            have gs : Goods prog w A h₀ names F σ env none [e] [v] := .cons (g σ) .nil
            refine callWith_builtin (plain_args gs pos) (evalArgs_ok gs (ds := [d]) (by simp [evEs, seqO, hde]) x.einv fun us s₁ k₁ r₁ => ?_)
            obtain ⟨u, rfl, ru⟩ := repL_one r₁
            have x₁ := x.keeps (Keeps.get k₁)
            have pl₁ : s₁.heap.PlainList a vs.toArray := g5.at fun o e => Keeps.get k₁ _ _ e
            refine wpAny_list_append_plain pl₁ (fun h' hp hsb => ?_) (by rw [List.size_toArray, g6.len, ← big_line]; simp at hsz; omega)
            rw [toList_push] at hp
            have up : ∀ b o', b ≠ a → s₁.heap.get? b = some o' → h'.get? b = some o' := fun b o' n e => hsb.extBut b o' n e
            have x₂ := grow_own x₁ hs g3 (g6.keeps (Keeps.get k₁)) r₁ hp up
            have st2 : Step (Own env ow) s₁ { s₁ with heap := h' } := ⟨h', s₁.toks, rfl, fun b o' e n => up b o' (fun q => n (.inr (.inr ⟨i, q ▸ g3⟩))) e, fun b o' e => by
              by_cases hb : b = a
              · subst hb; obtain ⟨n', e'⟩ := hp; exact ⟨_, e'⟩
              · exact ⟨o', up b o' hb e⟩⟩
            exact hq _ _ ⟨rfl, m, ow, (Step.ofKeeps (Y := Own env ow) k₁).trans st2 fun _ _ _ n => n, OwSub.refl _ _, x₂⟩
        · cases ha
      · cases ha
    · cases ho
  · cases ho

theorem extend_ok (hn : names.Nodup) (he : EnvOk env) {i : Nat} {e : X} {y : PySem.Str} {p p2 : Pos} {apos pos : Pos} {v : Expr} (hc : ownOk names env.scope i y = true) (hline : (apos.endLine == pos.line) = true)
    (g : ∀ σ, Good prog w A h₀ names F σ env none e v) :
    StOk prog w A h₀ names env (fun σ => exX F wf σ (.extend i e)) (.Expr (.Call (.Attribute (.Name y p) "extend" apos) [v] [] pos) p2) := by
  intro W m ow σ s o Q ho x hq
  obtain ⟨hy, hd, hl⟩ := ownOk_inv hc
  simp only [exX] at ho
  split at ho
  · rename_i l hde
    split at ho
    · rename_i σ' ha
      cases ho
      unfold evAppend at ha
      split at ha
      · rename_i ds hs
        split at ha
        · rename_i hsz
          cases ha
          obtain ⟨z, a, vs, g1, g2, g3, g4, g5, g6⟩ := x.own i ds hs
          rw [hy] at g1; cases g1
          refine wpAny_Expr ?_ (interactive_no he) rfl
          refine wpAny_Call_method (T := "list") (id := "list.extend") rfl ?_ hline PySem.F.plainAttrs_list PySem.F.slot_list_extend PySem.F.type_list_extend ?_
          · rw [starEach_cons (g σ).star]; rfl
          · refine wpAny_Name (wpAny_loadName_local he.kind hl x.ns g4 ?_) hd
            obtain ⟨n, hob⟩ := id g5
            refine ⟨g5.isList.typeIs, (fun a' e => by cases e; exact ⟨_, hob, rfl⟩), ?_⟩
            have gs : Goods prog w A h₀ names F σ env none [e] [v] := .cons (g σ) .nil
            refine callWith_builtin (plain_args gs pos) (evalArgs_ok gs (ds := [.lst l]) (by simp [evEs, seqO, hde]) x.einv fun us s₁ k₁ r₁ => ?_)
            obtain ⟨u, rfl, ru⟩ := repL_one r₁
            have x₁ := x.keeps (Keeps.get k₁)
            have pl₁ : s₁.heap.PlainList a vs.toArray := g5.at fun o e => Keeps.get k₁ _ _ e
            unfold Rep at ru
            obtain ⟨b, ws, rfl, hbW, pl₂, rw₂⟩ := ru
            have hab : b ≠ a := fun q => hbW (.inr (.inr (.inr ⟨i, q ▸ g3⟩)))
            obtain ⟨n1, e1⟩ := id pl₁
            obtain ⟨n2, e2⟩ := id pl₂
            have hlen : vs.toArray.size + ws.toArray.size ≤ sizeLine := by rw [List.size_toArray, List.size_toArray, g6.len, rw₂.len, ← big_line]; exact hsz
            refine call_meets PySem.F.slot_list_extend pl₁.isList.typeIs PySem.F.entry_list_extend (PySem.F.args_list_extend_2 _ _) (AutoSeq1.list_extend_list_list_0 a vs.toArray n1 b ws.toArray n2 (extend_door hlen) (by omega) (by omega)) ?_
            refine ⟨e1, e2, ?_⟩
            have e : vs.toArray ++ ws.toArray = (vs ++ ws).toArray := by simp
            have ho' : (s₁.heap.update a (Obj.mapSeq fun x => x ++ ws.toArray)).get? a = some { cls := .type "list", data := .seq (vs ++ ws).toArray (if (vs.toArray ++ ws.toArray).size == vs.toArray.size then n1 else n1 + 1) } := by
              rw [Heap.get?_update_self _ e1 (by rw [mapSeq_app]; rfl), mapSeq_app, e]
            have hp : (s₁.heap.update a (Obj.mapSeq fun x => x ++ ws.toArray)).PlainList a (vs ++ ws).toArray := ⟨_, ho'⟩
            have up : ∀ b' o', b' ≠ a → s₁.heap.get? b' = some o' → (s₁.heap.update a (Obj.mapSeq fun x => x ++ ws.toArray)).get? b' = some o' := fun b' o' n e =>
              (Heap.get?_update_other _ _ (Ne.symm n)).trans e
            have x₂ := grow_own x₁ hs g3 (g6.keeps (Keeps.get k₁)) rw₂ hp up
            have st2 : Step (Own env ow) s₁ { s₁ with heap := s₁.heap.update a (Obj.mapSeq fun x => x ++ ws.toArray) } := ⟨_, s₁.toks, rfl, fun b' o' e n => up b' o' (fun q => n (.inr (.inr ⟨i, q ▸ g3⟩))) e, fun b' o' e => by
              by_cases hb : b' = a
              · subst hb; exact ⟨_, ho'⟩
              · exact ⟨o', up b' o' hb e⟩⟩
            exact hq _ _ ⟨rfl, m, ow, (Step.ofKeeps (Y := Own env ow) k₁).trans st2 fun _ _ _ n => n, OwSub.refl _ _, x₂⟩
        · cases ha
      · cases ha
    · cases ho
  · cases ho
end
end Mine

namespace Mine
open PySem PySem.W PySem.Calls PyProof.Rows PySem.SeqAt

section
variable {prog : Program} {w : World} {A : Around} {h₀ : Heap} {mg mb : PySem.Str → Option Value} {fa : Nat → Addr} {names fn : List PySem.Str} {F : FTab} {k wf : Nat}
variable {env : Env} {W : AddrSet} {m : PySem.Str → Option Value} {ow : Nat → Option Addr} {σ : List Slot} {h h' : Heap} {s : Shared}

theorem assignC_ok (hn : names.Nodup) (he : EnvOk env) (hh : A.handled = none) {i : Nat} {t y : PySem.Str} {pt py p2 pos : Pos} {sc : Scope} {elt src : X} {el it : Expr}
    (hc : ownOk names env.scope i t = true) (hs : ScOk sc env.scope y) (hset : ∀ x, foldedSetIterable it env x = pure x)
    (hsw : swapsWith (.ListComp el [⟨.Name y py, it, [], 0⟩] sc p2) (some (.Name t pt)) pos.line env = pure true)
    (ihs : ∀ σ, EvOk prog w A h₀ names F σ env none src it)
    (ihe : ∀ σ C dv, EvOk prog w A h₀ names F σ (compEnvC sc (clOf env sc.names []) C env) (some (y, dv)) elt el) :
    StOk prog w A h₀ names env (fun σ => exX F wf σ (.assignC i (.comp elt src))) (.Assign [.Name t pt] (.ListComp el [⟨.Name y py, it, [], 0⟩] sc p2) pos) := by
  intro W m ow σ s o Q ho x hq
  obtain ⟨hy, _, hl⟩ := ownOk_inv hc
  simp only [exX] at ho
  split at ho
  · rename_i d hd
    cases ho
    unfold evE at hd
    simp only at hd
    split at hd
    · rename_i xd hx
      split at hd
      · rename_i l hli
        split at hd
        · rename_i r hr
          cases hd
          refine assignComp_in (cl := clOf env sc.names []) hsw (closureFor_clOf fun x hx e => he.cells _ (hs.frees x hx e)) hs.nocell hs.kind hs.locs hs.var hl (by rw [he.kind]; rfl) ?_ hset
          refine ihs σ (Wall W env ow) s xd _ hx x.einv fun v s₁ k₁ r₁ => ?_
          have x₁ := x.keeps (Keeps.get k₁)
          have hi₁ := x₁.einv
          refine iter_ok hh hi₁.wok r₁ hli fun o P St fp hW hsz hfp hst hP _ _ => ?_
          have kp : ∀ a o', s₁.heap.get? a = some o' → (s₁.heap.push o).get? a = some o' := fun _ _ e => Heap.get?_push_of_some _ e
          have hLne : env.locals ≠ s₁.heap.objs.size := by
            obtain ⟨o', _, _, e, _⟩ := x₁.ns
            exact Nat.ne_of_lt (Heap.lt_size e)
          refine ⟨fun _ => true, _, _, fp, [s₁.heap.objs.size], l.length, P, St, m, rfl, hW, by rw [← big_line]; exact hsz, hst, ?_, (by simpa using hLne), x₁.ns.keeps kp, comp_quiet he hs (ihe σ) hr hi₁ rfl kp hP, ?_⟩
          · intro b hb
            show b < (s₁.heap.push o).objs.size
            rw [Heap.size_push]
            rcases hfp b hb with rfl | ⟨_, o', ho'⟩
            · exact Nat.lt_succ_self _
            · exact Nat.lt_succ_of_lt (Heap.lt_size ho')
          · intro D h' tk ys vs hD _ hpl hlen hPv hF hns hk
            have up : ∀ a o', a ≠ env.locals → s₁.heap.get? a = some o' → h'.get? a = some o' := fun a o' n e => hk a o' n (fun hmem => by
              rw [List.mem_singleton] at hmem
              rw [hmem] at e
              exact absurd (Heap.lt_size e) (Nat.lt_irrefl _)) (kp a o' e)
            have hDW : ¬ Wall W env ow D := fun hw => by
              obtain ⟨o', ho'⟩ := hi₁.wok D hw
              have := kp _ _ ho'
              rw [this] at hD
              cases hD
            have hrep : Rep (Wall W env (dropOw ow i)) h' (.lst r) (.ref D) := by
              unfold Rep
              refine ⟨D, ys.toList, rfl, fun hw => hDW (wall_drop hw), by simpa using hpl, ?_⟩
              have hfil : vs.filter (fun _ => true) = vs := List.filter_eq_self.mpr fun _ _ => rfl
              rw [hfil] at hF
              have r0 := compL_rep (h' := s₁.heap) (fun _ _ q => q) hr (repL_of_places hlen fun j v hj => hP j v (hPv j v hj)) hF
              exact RepL.mono2 (fun a o n e => ⟨fun q => n (wall_drop q), up a o (fun q => n (.inr (.inl q))) e⟩) _ _ r0
            have x₂ := store_local2 hn x₁ hy hl hrep hns up
            refine hq _ _ ⟨rfl, _, _, ?_, owSub_drop _, x₂⟩
            refine (Step.ofKeeps (Y := Own env ow) k₁).trans (Z := Own env ow) ⟨h', tk, rfl, fun b o' e n => up b o' (fun q => n (.inl q)) e, fun b o' e => ?_⟩ fun _ _ _ n => n
            by_cases hb : b = env.locals
            · subst hb
              obtain ⟨o'', _, _, ho', _⟩ := hns
              exact ⟨o'', ho'⟩
            · exact ⟨o', up b o' hb e⟩
        · cases hd
      · cases hd
    · cases hd
  · cases ho

theorem comp_of : ∀ {e : X}, Nat.beq e.ctorIdx 22 = true → ∃ elt src, e = .comp elt src := by
  intro e h
  cases e <;> first | exact ⟨_, _, rfl⟩ | exact falseNot h

theorem exS_freeze {i : Nat} {xs : List XS} : exS F wf σ (.freeze i :: xs) = (match σ[i]? with | some (.own ds) => exS F wf (σ.set i (.val (.lst ds))) xs | _ => none) := by
  rw [exS]
  simp only [exX]
  cases h : σ[i]? with
  | none => rfl
  | some a => cases a <;> rfl

theorem assignC_st (hn : names.Nodup) (he : EnvOk env) (G : Gl h₀ mg mb fn fa) (hA : Room A k) (hF : ∀ f ds d, F f ds = some d → CallOk prog w A h₀ (fa f) ds d) {i : Nat} {e : X} {st : Stmt}
    (hc : chkX names fn env.scope (.assignC i e) st = true) : StOk prog w A h₀ names env (fun σ => exX F wf σ (.assignC i e)) st := by
  refine onSAssign_elim hc fun ts v pos hc => ?_
  refine onOne_elim hc fun t hc => ?_
  refine onName_elim hc fun y py hc => ?_
  simp only [Bool.and_eq_true, beq_iff_eq] at hc
  obtain ⟨⟨⟨⟨h1, h2⟩, h3⟩, h4⟩, h5⟩ := hc
  obtain ⟨elt, src, rfl⟩ := comp_of h4
  clear h4
  obtain ⟨el, gs, sc', p2, rfl, hq⟩ := onComp_inv h5
  clear h5
  obtain ⟨⟨tg, it, ifs, a⟩, rfl, h5⟩ := onOne_inv hq
  clear hq
  obtain ⟨hf, h6⟩ := Bool.and_eq_true_iff.mp h5
  clear h5
  obtain rfl := List.isEmpty_iff.mp hf
  obtain ⟨z, pz, htg, h5⟩ := onName_inv (e := tg) h6
  subst htg
  simp only [Bool.and_eq_true, beq_iff_eq] at h5
  obtain ⟨⟨⟨⟨q1, q2⟩, q3⟩, q4⟩, q5⟩ := h5
  subst q1
  have hs := scOk_inv q3
  have gsrc := fun σ => ev_all (σ := σ) G hA hF src it env none he q4
  refine assignC_ok hn he hA.hh h1 hs (folded_plain (gsrc []).set) ?_ (fun σ => (gsrc σ).ev) fun σ C dv => (ev_all G hA hF elt el (compEnvC sc' (clOf env sc'.names []) C env) (some (z, dv)) (envOk_comp he hs C) q5).ev
  obtain ⟨_, _, hl⟩ := ownOk_inv h1
  have h2 : (!(sc'.names.any fun (n, k) => n == y && (k == .local || k == .cell))) = true := h2
  rw [Bool.not_eq_true'] at h2
  unfold swapsWith
  simp only
  have b1 : env.blockKind = .function := by unfold Env.blockKind; rw [he.kind]; rfl
  have b2 : env.kindOf y = some .local := hl
  rw [b1, b2, h2, h3]
  simp

set_option maxHeartbeats 1000000 in
mutual
theorem exX_ok (hn : names.Nodup) (he : EnvOk env) (G : Gl h₀ mg mb fn fa) (hA : Room A k) (hF : ∀ f ds d, F f ds = some d → CallOk prog w A h₀ (fa f) ds d) :
    ∀ (x : XS) (st : Stmt), chkX names fn env.scope x st = true → StOk prog w A h₀ names env (fun σ => exX F wf σ x) st
  | .newl i, st, hc => by
    refine onSAssign_elim hc fun ts v pos hc => ?_
    refine onOne_elim hc fun t hc => ?_
    refine onName_elim hc fun y p hc => ?_
    refine onLst_elim hc fun es p2 hc => ?_
    obtain ⟨h1, h2⟩ := Bool.and_eq_true_iff.mp hc
    refine nil_elim h1 ?_
    exact newl_ok hn he h2
  | .assign i e, st, hc => by
    refine onSAssign_elim hc fun ts v pos hc => ?_
    refine onOne_elim hc fun t hc => ?_
    simp only [Bool.and_eq_true, Bool.not_eq_true'] at hc
    exact set_ok hn he hc.1.1 hc.1.2 fun σ => (ev_all G hA hF e _ env none he hc.2).ev
  | .assignC i e, st, hc => assignC_st hn he G hA hF hc
  | .unpack l e, st, hc => by
    refine onSAssign_elim hc fun ts v pos hc => ?_
    refine onOne_elim hc fun t hc => ?_
    refine onTup_elim hc fun ts kk tp hc => ?_
    simp only [Bool.and_eq_true, Bool.not_eq_true'] at hc
    exact unpack_ok hn he hA.hh hc.1.1.1 hc.1.1.2 hc.1.2 fun σ => (ev_all G hA hF e _ env none he hc.2).ev
  | .aug i e, st, hc => by
    refine onSAug_elim hc fun t o v pos hc => ?_
    obtain ⟨h1, h2⟩ := Bool.and_eq_true_iff.mp hc
    refine dec_elim h1 ?_
    obtain ⟨y, py, rfl, h3⟩ := onName_inv h2
    simp only [Bool.and_eq_true] at h3
    obtain ⟨y', p', e', h4⟩ := onName_inv h3.1.1
    cases e'
    simp only [Bool.and_eq_true, Bool.not_eq_true'] at h4
    exact aug_ok hn he h3.1.2 (fun σ => (ev_all G hA hF (.var i) _ env none he h3.1.1).ev) h4.1.2 fun σ => (ev_all G hA hF e _ env none he h3.2).ev
  | .append i e, st, hc => by
    refine onSExpr_elim hc fun c p2 hc => ?_
    refine onCall_elim hc fun fe es ks pos hc => ?_
    have hk := andL hc
    have hc := andR hc
    refine nil_elim hk ?_
    refine onOne_elim hc fun v hc => ?_
    refine onAttr_elim hc fun o a apos hc => ?_
    refine onName_elim hc fun y py hc => ?_
    simp only [Bool.and_eq_true] at hc
    obtain ⟨⟨⟨h1, h2⟩, h3⟩, h4⟩ := hc
    rw [beq_iff_eq] at h2
    subst h2
    exact append_ok hn he h1 h3 fun σ => ev_all G hA hF e _ env none he h4
  | .extend i e, st, hc => by
    refine onSExpr_elim hc fun c p2 hc => ?_
    refine onCall_elim hc fun fe es ks pos hc => ?_
    have hk := andL hc
    have hc := andR hc
    refine nil_elim hk ?_
    refine onOne_elim hc fun v hc => ?_
    refine onAttr_elim hc fun o a apos hc => ?_
    refine onName_elim hc fun y py hc => ?_
    simp only [Bool.and_eq_true] at hc
    obtain ⟨⟨⟨h1, h2⟩, h3⟩, h4⟩ := hc
    rw [beq_iff_eq] at h2
    subst h2
    exact extend_ok hn he h1 h3 fun σ => ev_all G hA hF e _ env none he h4
  | .freeze i, st, hc => by
    exact falseNot hc
  | .for_ t src body, st, hc => by
    refine onSFor_elim hc fun tg it b els pos hc => ?_
    have hk := andL hc
    have hc := andR hc
    refine nil_elim hk ?_
    simp only [Bool.and_eq_true] at hc
    intro W m ow σ s o Q ho x hq
    simp only [exX] at ho
    split at ho
    · rename_i d hd
      split at ho
      · rename_i l hl
        exact for_ok hn he hA.hh hc.1.1 (ev_all G hA hF src _ env none he hc.1.2) (exS_ok hn he G hA hF body _ hc.2) hd hl ho x hq
      · cases ho
    · cases ho
  | .while_ t body, st, hc => by
    refine onSWhile_elim hc fun te b els pos hc => ?_
    have hk := andL hc
    have hc := andR hc
    refine nil_elim hk ?_
    simp only [Bool.and_eq_true] at hc
    intro W m ow σ s o Q ho x hq
    simp only [exX] at ho
    exact while_ok (fun σ => (ev_all G hA hF t _ env none he hc.1).tr) (exS_ok hn he G hA hF body _ hc.2) ho x hq
  | .ite t a b, st, hc => by
    refine onSIf_elim hc fun te y1 y2 pos hc => ?_
    simp only [Bool.and_eq_true] at hc
    intro W m ow σ s o Q ho x hq
    have gt := (ev_all (σ := σ) G hA hF t _ env none he hc.1.1).tr
    have ga := exS_ok hn he G hA hF a _ hc.1.2
    have gb := exS_ok hn he G hA hF b _ hc.2
    simp only [exX] at ho
    have fin : ∀ (s₁ : Shared), Keeps s s₁ → ∀ f s', Post h₀ names env W ow s₁ o f s' → Q f s' := fun s₁ k₁ f s' p => hq f s' (p.step (Step.ofKeeps k₁) (OwSub.refl _ _))
    split at ho
    · rename_i ht
      refine wpAny_If (gt (Wall W env ow) s true _ ht x.einv fun s₁ k₁ => ?_)
      exact ga W m ow σ s₁ o Q ho (x.keeps (Keeps.get k₁)) (fin s₁ k₁)
    · rename_i ht
      refine wpAny_If (gt (Wall W env ow) s false _ ht x.einv fun s₁ k₁ => ?_)
      exact gb W m ow σ s₁ o Q ho (x.keeps (Keeps.get k₁)) (fin s₁ k₁)
    · cases ho
  | .ret e, st, hc => by
    refine onSRet_elim hc fun v pos hc => ?_
    refine any_elim hc fun v hc => ?_
    intro W m ow σ s o Q ho x hq
    simp only [exX] at ho
    split at ho
    · rename_i d hd
      cases ho
      refine wpAny_Return_some ((ev_all G hA hF e _ env none he hc).ev (Wall W env ow) s d _ hd x.einv fun v s₁ k₁ r₁ => ?_)
      exact hq _ _ ⟨v, rfl, Step.ofKeeps k₁, rep_wall r₁⟩
    · cases ho
  | .cont, st, hc => by
    obtain ⟨pos, rfl, _⟩ := onSCont_inv hc
    intro W m ow σ s o Q ho x hq
    simp only [exX] at ho
    cases ho
    exact wpAny_Continue (hq _ _ ⟨rfl, m, ow, Step.refl _ _, OwSub.refl _ _, x⟩)
  | .stop, st, hc => by
    intro W m ow σ s o Q ho x hq
    simp [exX] at ho
theorem exS_ok (hn : names.Nodup) (he : EnvOk env) (G : Gl h₀ mg mb fn fa) (hA : Room A k) (hF : ∀ f ds d, F f ds = some d → CallOk prog w A h₀ (fa f) ds d) :
    ∀ (xs : List XS) (ss : List Stmt), chkS names fn env.scope xs ss = true → BlockOk prog w A h₀ names env (fun σ => exS F wf σ xs) ss
  | [], ss, hc => by
    cases ss with
    | cons _ _ => exact falseNot hc
    | nil =>
      intro W m ow σ s o Q ho x hq
      simp only [exS] at ho
      cases ho
      exact wpAny_execs_nil (hq _ _ ⟨rfl, m, ow, Step.refl _ _, OwSub.refl _ _, x⟩)
  | x :: xs, ss, hc => by
    by_cases hf : isFreeze x = true
    · cases x <;> simp [isFreeze] at hf
      rename_i i
      simp only [chkS, isFreeze, if_true] at hc
      have ih := exS_ok hn he G hA hF xs ss hc
      intro W m ow σ s o Q ho x hq
      simp only [exS_freeze] at ho
      split at ho
      · rename_i ds hs
        exact ih W m _ _ s o Q ho (freeze_own hn x hs) fun f s' p => hq f s' (p.step (Step.refl _ _) (owSub_drop _))
      · cases ho
    · simp only [chkS, if_neg hf] at hc
      cases ss with
      | nil => cases hc
      | cons st ss =>
        simp only [Bool.and_eq_true] at hc
        have ih := exS_ok hn he G hA hF xs ss hc.2
        have i1 := exX_ok hn he G hA hF x st hc.1
        intro W m ow σ s o Q ho x' hq
        simp only [exS] at ho
        cases hx : exX F wf σ x with
        | none => rw [hx] at ho; cases ho
        | some o₁ =>
          rw [hx] at ho
          refine wpAny_execs_cons (i1 W m ow σ s o₁ _ hx x' fun f s₁ p => ?_)
          cases o₁ with
          | next σ₁ =>
            obtain ⟨rfl, m₁, ow₁, st₁, ws₁, x₁⟩ := p
            exact ih W m₁ ow₁ σ₁ s₁ o Q ho x₁ fun f s' p => hq f s' (p.step st₁ ws₁)
          | cont σ₁ =>
            cases ho
            obtain ⟨rfl, p⟩ := p
            exact hq _ _ ⟨rfl, p⟩
          | ret d =>
            cases ho
            obtain ⟨v, rfl, p⟩ := p
            exact hq _ _ ⟨v, rfl, p⟩
end
end
end Mine

namespace Mine
open PySem PySem.W PySem.Calls PyProof.Rows PySem.SeqAt

noncomputable def chkFn (names : List PySem.Str) (n : Nat) (fn : List PySem.Str) (xs : List XS) (d : DefRec) : Bool :=
  d.params.posonlyargs.isEmpty && d.params.kwonlyargs.isEmpty && d.params.vararg.isNone && d.params.kwarg.isNone && decide (d.params.args.map (·.arg) = names.take n) && decide names.Nodup &&
  d.scope.kind == .function && !d.scope.isCoroutine && !d.scope.isGenerator && (names.take n).all (fun y => d.scope.names.lookup y == some .local || d.scope.names.lookup y == some .cell) &&
  chkS names fn d.scope xs d.body && decide (n ≤ names.length)

theorem lookup_zip : ∀ {as : List PySem.Str} {vs : List Value}, as.Nodup → as.length = vs.length → ∀ (pre : List (PySem.Str × Value)), (∀ p ∈ pre, p.1 ∉ as) →
    as.filterMap (fun n => ((pre ++ as.zip vs).lookup n).map (n, ·)) = as.zip vs
  | [], vs, _, _, pre, _ => by simp
  | a :: as, [], _, h, _, _ => by simp at h
  | a :: as, v :: vs, hn, hl, pre, hp => by
    have hn' := List.nodup_cons.mp hn
    have e1 : (pre ++ (a :: as).zip (v :: vs)).lookup a = some v := by
      have : ∀ (l : List (PySem.Str × Value)), (∀ p ∈ l, p.1 ≠ a) → (l ++ (a :: as).zip (v :: vs)).lookup a = some v := by
        intro l
        induction l with
        | nil => intro _; simp
        | cons x l ih =>
          intro h
          have hx := h x (List.mem_cons_self)
          obtain ⟨x1, x2⟩ := x
          rw [List.cons_append, List.lookup_cons]
          have : (a == x1) = false := by simpa using Ne.symm hx
          rw [this]
          exact ih fun p hp => h p (List.mem_cons_of_mem _ hp)
      exact this pre fun p hp' e => hp p hp' (by rw [e]; exact List.mem_cons_self)
    rw [List.filterMap_cons, e1]
    simp only [Option.map_some, List.zip_cons_cons]
    congr 1
    have := lookup_zip hn'.2 (by simpa using hl) (pre ++ [(a, v)]) (by
      intro p hp'
      rw [List.mem_append, List.mem_singleton] at hp'
      rcases hp' with h | rfl
      · exact fun q => hp p h (List.mem_cons_of_mem _ q)
      · exact hn'.1)
    rw [List.append_assoc] at this
    simpa using this

theorem lookup_some : ∀ {as : List PySem.Str} {vs : List Value} {n : PySem.Str}, n ∈ as → as.length = vs.length → ((as.zip vs).lookup n).isNone = false
  | [], vs, n, h, _ => by cases h
  | a :: as, [], n, _, h => by simp at h
  | a :: as, v :: vs, n, h, hl => by
    rw [List.zip_cons_cons, List.lookup_cons]
    cases e : n == a with
    | true => rfl
    | false =>
      have hne : n ≠ a := by simpa using e
      rcases List.mem_cons.mp h with h | h
      · exact absurd h hne
      · exact lookup_some h (by simpa using hl)

theorem bind_plain {name : PySem.Str} {params : Arguments} {body : List Stmt} {scope : Scope} {pm cd doc : Value} {vs : List Value} (h1 : params.posonlyargs = []) (h2 : params.kwonlyargs = []) (h3 : params.vararg = none) (h4 : params.kwarg = none)
    (hn : (params.args.map (·.arg)).Nodup) (hl : (params.args.map (·.arg)).length = vs.length) :
    bindArgs (docDef name params body scope pm cd doc) ⟨vs, []⟩ = pure ((params.args.map (·.arg)).zip vs) := by
  have hz := lookup_zip hn hl [] (by simp)
  have hsome : ∀ n ∈ params.args.map (·.arg), (((params.args.map (·.arg)).zip vs).lookup n).isNone = false := fun n hm => lookup_some hm hl
  have hmiss : ((params.args.map (·.arg)).filter fun n => (((params.args.map (·.arg)).zip vs).lookup n).isNone) = [] := List.filter_eq_nil_iff.mpr fun n hm => by rw [hsome n hm]; simp
  have hgt : decide (vs.length > (params.args.map (·.arg)).length) = false := by rw [hl]; simp
  rw [List.nil_append] at hz
  obtain ⟨po, ar, va, ko, kd, kw, df⟩ := params
  dsimp only at h1 h2 h3 h4 hz hsome hmiss hgt hl hn
  subst h1 h2 h3 h4
  clear hsome hn
  generalize hA : ar.map (·.arg) = as at *
  unfold bindArgs
  dsimp only [docDef]
  rw [hA]
  have hs : seqItems? Value.none = pure none := rfl
  rw [hs]
  simp only [List.map_nil, List.nil_append, List.append_nil, List.forIn_nil, pure_bind]
  have e0 : ((none : Option (Array Value)).getD #[]).toList = [] := rfl
  simp only [e0, List.drop_nil, List.length_nil, Nat.sub_zero, List.take_length, List.drop_length, List.zip_nil_left, List.forIn_nil, pure_bind, hmiss, hgt, Bool.false_and, Bool.false_eq_true, if_false, List.isEmpty_nil, Bool.not_true, hz]
end Mine

namespace Mine
open PySem PySem.W PySem.Calls PyProof.Rows PySem.SeqAt

theorem cellsFrom_some : ∀ (ns : List (PySem.Str × NameKind)) (n : Nat) (acc : List (PySem.Str × Addr)) (y : PySem.Str), (y, NameKind.cell) ∈ ns ∨ (acc.lookup y).isSome = true → ((cellsFrom n ns acc).lookup y).isSome = true
  | [], n, acc, y, h => by
    rcases h with h | h
    · cases h
    · exact h
  | (z, k) :: r, n, acc, y, h => by
    unfold cellsFrom
    split
    · refine cellsFrom_some r _ _ y ?_
      rcases h with h | h
      · rcases List.mem_cons.mp h with e | h
        · right
          cases e
          simp
        · exact .inl h
      · right
        rw [List.lookup_cons]
        cases y == z <;> simp [h]
    · rename_i hk
      refine cellsFrom_some r _ _ y ?_
      rcases h with h | h
      · rcases List.mem_cons.mp h with e | h
        · cases e
          exact absurd rfl hk
        · exact .inl h
      · exact .inr h

theorem bindL_not {kd : PySem.Str → Option NameKind} {y : PySem.Str} : ∀ {bs : List (PySem.Str × Value)} {m : PySem.Str → Option Value}, (∀ p ∈ bs, p.1 ≠ y) → bindL kd bs m y = m y
  | [], m, _ => rfl
  | (n, v) :: r, m, h => by
    unfold bindL
    rw [bindL_not fun p hp => h p (List.mem_cons_of_mem _ hp)]
    split
    · exact if_neg (Ne.symm (h (n, v) List.mem_cons_self))
    · rfl
theorem bindC_not {kd : PySem.Str → Option NameKind} {y : PySem.Str} : ∀ {bs : List (PySem.Str × Value)} {m : PySem.Str → Option Value}, (∀ p ∈ bs, p.1 ≠ y) → bindC kd bs m y = m y
  | [], m, _ => rfl
  | (n, v) :: r, m, h => by
    unfold bindC
    rw [bindC_not fun p hp => h p (List.mem_cons_of_mem _ hp)]
    split
    · rfl
    · exact if_neg (Ne.symm (h (n, v) List.mem_cons_self))

theorem zip_at : ∀ {as : List PySem.Str} {vs : List Value} {i : Nat} {y : PySem.Str} {v : Value}, as[i]? = some y → vs[i]? = some v → as.Nodup → ∃ pre suf, as.zip vs = pre ++ (y, v) :: suf ∧ (∀ p ∈ suf, p.1 ≠ y)
  | [], _, i, y, v, h, _, _ => by simp at h
  | _ :: _, [], i, y, v, _, h, _ => by simp at h
  | a :: as, u :: vs, 0, y, v, h, h', hn => by
    simp only [List.getElem?_cons_zero, Option.some.injEq] at h h'
    subst h h'
    refine ⟨[], as.zip vs, rfl, fun p hp e => ?_⟩
    have := (List.of_mem_zip hp).1
    rw [e] at this
    exact (List.nodup_cons.mp hn).1 this
  | a :: as, u :: vs, i + 1, y, v, h, h', hn => by
    simp only [List.getElem?_cons_succ] at h h'
    obtain ⟨pre, suf, e, hs⟩ := zip_at h h' (List.nodup_cons.mp hn).2
    exact ⟨(a, u) :: pre, suf, by rw [List.zip_cons_cons, e]; rfl, hs⟩

theorem bindL_app {kd : PySem.Str → Option NameKind} : ∀ (l1 l2 : List (PySem.Str × Value)) (m : PySem.Str → Option Value), bindL kd (l1 ++ l2) m = bindL kd l2 (bindL kd l1 m)
  | [], _, _ => rfl
  | (n, v) :: r, l2, m => by
    show bindL kd (r ++ l2) _ = _
    rw [bindL_app r l2]; rfl
theorem bindC_app {kd : PySem.Str → Option NameKind} : ∀ (l1 l2 : List (PySem.Str × Value)) (m : PySem.Str → Option Value), bindC kd (l1 ++ l2) m = bindC kd l2 (bindC kd l1 m)
  | [], _, _ => rfl
  | (n, v) :: r, l2, m => by
    show bindC kd (r ++ l2) _ = _
    rw [bindC_app r l2]; rfl

theorem bindL_at {kd : PySem.Str → Option NameKind} {as : List PySem.Str} {vs : List Value} {i : Nat} {y : PySem.Str} {v : Value} {m : PySem.Str → Option Value} (h : as[i]? = some y) (h' : vs[i]? = some v) (hn : as.Nodup) (hk : kd y = some .local) :
    bindL kd (as.zip vs) m y = some v := by
  obtain ⟨pre, suf, e, hs⟩ := zip_at h h' hn
  rw [e, bindL_app]
  show bindL kd suf (if kd y = some .local then _ else _) y = some v
  rw [bindL_not hs, if_pos hk, if_pos rfl]
theorem bindC_at {kd : PySem.Str → Option NameKind} {as : List PySem.Str} {vs : List Value} {i : Nat} {y : PySem.Str} {v : Value} {m : PySem.Str → Option Value} (h : as[i]? = some y) (h' : vs[i]? = some v) (hn : as.Nodup) (hk : kd y = some .cell) :
    bindC kd (as.zip vs) m y = some v := by
  obtain ⟨pre, suf, e, hs⟩ := zip_at h h' hn
  rw [e, bindC_app]
  show bindC kd suf (if kd y = some .local then _ else _) y = some v
  rw [bindC_not hs, if_neg (by rw [hk]; decide), if_pos rfl]

noncomputable def start (nn n : Nat) (ds : List D) : List Slot := ds.map .val ++ List.replicate (nn - n) .no

theorem start_get {nn n : Nat} {ds : List D} {i : Nat} {d : D} (h : (start nn n ds)[i]? = some (.val d)) : ds[i]? = some d := by
  unfold start at h
  by_cases hi : i < ds.length
  · rw [List.getElem?_append_left (by rw [List.length_map]; exact hi), List.getElem?_map] at h
    cases e : ds[i]? with
    | none => rw [e] at h; cases h
    | some a => rw [e] at h; cases h; rfl
  · rw [List.getElem?_append_right (by rw [List.length_map]; omega)] at h
    rw [List.getElem?_replicate] at h
    split at h <;> cases h
theorem start_own {nn n : Nat} {ds : List D} {i : Nat} {l : List D} : (start nn n ds)[i]? ≠ some (.own l) := by
  intro h
  unfold start at h
  by_cases hi : i < ds.length
  · rw [List.getElem?_append_left (by rw [List.length_map]; exact hi), List.getElem?_map] at h
    cases e : ds[i]? with
    | none => rw [e] at h; cases h
    | some a => rw [e] at h; cases h
  · rw [List.getElem?_append_right (by rw [List.length_map]; omega)] at h
    rw [List.getElem?_replicate] at h
    split at h <;> cases h

theorem Room.deeper {A : Around} {k : Nat} (h : Room A (k + 1)) (env : Env) : Room (A.deeper env) k where
  hh := h.hh
  depth := by have := h.depth; show A.depth + 1 + k + 150 < recursionLimit; omega
  units := by have := h.units; show A.units + 3 + 10 * k + 300 < cLine; omega

section
variable {prog : Program} {w : World} {A : Around} {h₀ : Heap} {mg mb : PySem.Str → Option Value} {fa : Nat → Addr} {names fn : List PySem.Str} {F : FTab} {k wf n : Nat}

/-- a function of the text is as its program says -/
theorem fn_ok {xs : List XS} {dr : DefRec} {a : Addr} {o : Obj} {pm code doc : Value} {ds : List D} {d : D} (hc : chkFn names n fn xs dr = true) (G : Gl h₀ mg mb fn fa) (hA : Room A (k + 1))
    (ho : h₀.get? a = some o) (hdata : o.data = .func (docDef dr.name dr.params dr.body dr.scope pm code doc)) (hcd : h₀.CodeRec code dr.name)
    (hF : ∀ A', Room A' k → ∀ f ds d, F f ds = some d → CallOk prog w A' h₀ (fa f) ds d)
    (hlen : ds.length = n) (he : exS F wf (start names.length n ds) xs = some (.ret d)) : CallOk prog w A h₀ a ds d := by
  intro W s vs Q hb hw hr hq
  simp only [chkFn, Bool.and_eq_true, decide_eq_true_eq, beq_iff_eq, Bool.not_eq_true', List.isEmpty_iff, Option.isNone_iff_eq_none] at hc
  obtain ⟨⟨⟨⟨⟨⟨⟨⟨⟨⟨⟨p1, p2⟩, p3⟩, p4⟩, p5⟩, hn⟩, c1⟩, c2⟩, c3⟩, c4⟩, c5⟩, hnn⟩ := hc
  have hvl : vs.length = n := by rw [hr.len, hlen]
  have htl : (names.take n).length = n := by rw [List.length_take]; omega
  have hnt : (names.take n).Nodup := hn.sublist (List.take_sublist _ _)
  have hkd : ∀ y ∈ names.take n, dr.scope.names.lookup y = some .local ∨ dr.scope.names.lookup y = some .cell := fun y hy => by
    have := List.all_eq_true.mp c4 y hy
    simpa using this
  have hbind := bind_plain (name := dr.name) (body := dr.body) (scope := dr.scope) (pm := pm) (cd := code) (doc := doc) (vs := vs) p1 p2 p3 p4 (by rw [p5]; exact hnt) (by rw [p5, htl, hvl])
  rw [p5] at hbind
  have hcellS : ∀ (L : Nat) (y : PySem.Str), dr.scope.names.lookup y = some .cell → ((cellsFrom L dr.scope.names []).lookup y).isSome = true := fun L y e =>
    cellsFrom_some _ _ _ _ (.inl (mem_of_lookup e))
  generalize hfd : docDef dr.name dr.params dr.body dr.scope pm code doc = fd at *
  have efs : fd.scope = dr.scope := by rw [← hfd]; rfl
  refine wpAny_call (codeAny_call_cells (by have := hA.depth; omega) (hb _ _ ho) hdata (G.nolimit.keeps hb) (by rw [← hfd]; exact hcd.keeps hb) (by rw [← hfd]; rfl) hbind (by rw [← hfd]; rfl) ?_ ?_
    (by rw [efs]; exact c2) (by rw [efs]; exact c3) (by rw [efs]; exact c1))
  · intro x hx
    rw [efs]
    rcases hkd x.1 (List.of_mem_zip hx).1 with h | h
    · exact .inl h
    · exact .inr ⟨h, hcellS _ _ h⟩
  · intro s₁ x
    generalize hL : s.heap.objs.size = L at *
    have hfree : ∀ c, L ≤ c → s.heap.get? c = none := fun c hc => by
      cases q : s.heap.get? c with
      | none => rfl
      | some o' => exact absurd (show c < L from hL ▸ Heap.lt_size q) (Nat.not_lt.mpr hc)
    have hfree0 : ∀ c, L ≤ c → h₀.get? c = none := fun c hc => by
      cases q : h₀.get? c with
      | none => rfl
      | some o' => have := hb c o' q; rw [hfree c hc] at this; cases this
    have hfreeW : ∀ c, L ≤ c → ¬ W c := fun c hc q => by
      obtain ⟨o', e⟩ := hw c q; rw [hfree c hc] at e; cases e
    generalize henv : callEnvC fd L a = env at *
    have eL : env.locals = L := by rw [← henv]; rfl
    have eS : env.scope = dr.scope := by rw [← henv, ← efs]; rfl
    have eC : env.cells = cellsFrom (L + 1) dr.scope.names [] := by rw [← henv, ← efs]; rfl
    have hE : EnvOk env := ⟨by rw [eS]; exact c1, by rw [← henv, ← hfd]; rfl, by rw [← henv, ← hfd]; rfl, fun y e => by
      rw [eS] at e
      rw [eC]
      exact Option.isSome_iff_exists.mp (hcellS _ _ e)⟩
    have ab : ∀ y c, env.cells.lookup y = some c → L < c := fun y c e => by
      have := x.above y c (mem_of_lookup e)
      rwa [eL] at this
    have keep := x.toInCall.keep
    have own0 : ∀ c, Own env (fun _ => none) c → L ≤ c := by
      rintro c (q | ⟨y, q⟩ | ⟨i, q⟩)
      · rw [q, eL]; exact Nat.le_refl _
      · exact Nat.le_of_lt (ab y c q)
      · cases q
    have up : ∀ c o', ¬ W c → s.heap.get? c = some o' → ¬ Wall W env (fun _ => none) c ∧ s₁.heap.get? c = some o' := fun c o' nW e => by
      refine ⟨fun q => ?_, keep _ _ e⟩
      rcases q with q | q
      · exact nW q
      · rw [hfree c (own0 c q)] at e
        cases e
    have hS : SInv h₀ names env W (bindL env.kindOf ((names.take n).zip vs) fun _ => none) (fun _ => none) (start names.length n ds) s₁.heap := by
      have par : ∀ (i : Nat) (y : PySem.Str) (d : D), names[i]? = some y → (start names.length n ds)[i]? = some (.val d) → (names.take n)[i]? = some y ∧ ∃ v, vs[i]? = some v ∧ Rep W s.heap d v := fun i y d h1 h2 => by
        have h3 := start_get h2
        have hi : i < n := by rw [← hlen]; exact (List.getElem?_eq_some_iff.mp h3).1
        refine ⟨by rw [List.getElem?_take_of_lt hi]; exact h1, hr.get h3⟩
      constructor
      · exact fun b o' e => keep _ _ (hb b o' e)
      · exact fun c q => let ⟨o', e⟩ := hw c q; ⟨o', keep _ _ e⟩
      · exact x.toInCall.ns
      · rw [eL]; exact hfree0 _ (Nat.le_refl _)
      · rw [eL]; exact hfreeW _ (Nat.le_refl _)
      · exact fun y c e => ⟨hfreeW _ (Nat.le_of_lt (ab y c e)), by rw [eL]; exact Nat.ne_of_gt (ab y c e), hfree0 _ (Nat.le_of_lt (ab y c e)), _, x.cell y c e⟩
      · exact fun y z c e1 e2 => name_of_addr x.apart (mem_of_lookup e1) (mem_of_lookup e2)
      · exact fun i c e => nomatch e
      · exact fun i j c e => nomatch e
      · exact fun i l e => absurd e start_own
      · intro i y d h1 h2 h3
        obtain ⟨h4, v, h5, h6⟩ := par i y d h1 h2
        exact ⟨v, bindL_at h4 h5 hnt h3, Rep.mono2 up _ _ h6⟩
      · intro i y d h1 h2 h3
        obtain ⟨h4, v, h5, h6⟩ := par i y d h1 h2
        obtain ⟨c, hc⟩ := hE.cells y h3
        refine ⟨c, v, hc, ?_, Rep.mono2 up _ _ h6⟩
        have := x.cell y c hc
        rwa [bindC_at h4 h5 hnt h3] at this
    have hbody := exS_ok (wf := wf) hn hE G (hA.deeper env) (hF _ (hA.deeper env)) xs dr.body (by rw [eS]; exact c5)
    refine wpAny_mono (hbody W _ _ _ s₁ _ (fun f s' => Post h₀ names env W (fun _ => none) s₁ (.ret d) f s') he hS fun f s' p => p) (fun f s' p => ?_) fun _ _ q => q.elim
    obtain ⟨v, rfl, st, r⟩ := p
    refine hq v s' ?_ r
    obtain ⟨h1, t1, rfl⟩ := x.toInCall.same
    obtain ⟨h2, t2, rfl, kept, _⟩ := st
    exact ⟨h2, t2, rfl, fun b o' e => kept b o' (keep b o' e) fun q => by rw [hfree b (own0 b q)] at e; cases e⟩
end
end Mine

namespace Mine
open PySem PySem.W PySem.Calls PyProof.Rows PySem.SeqAt

noncomputable def fnNames : List PySem.Str := ["c1_reference", "is_surrogate", "lead_of", "decode_utf8", "decode_utf16", "user_sign", "decode", "utf8_octets", "octet_of", "octets_of", "encode", "_law_digit", "_law_rows", "_law_form", "_law_spoiled", "_law_utf8", "_law_units", "_law_utf16", "_law_windows", "_law_point", "_law_singles"]
noncomputable def names_c1_reference : List PySem.Str := ["code", "table"]
noncomputable def arity_c1_reference : Nat := 1
noncomputable def P_c1_reference : List XS := [
  .assign 1 (.tup [.int 8364, .int 0, .int 8218, .int 402, .int 8222, .int 8230, .int 8224, .int 8225, .int 710, .int 8240, .int 352, .int 8249, .int 338, .int 0, .int 381, .int 0, .int 0, .int 8216, .int 8217, .int 8220, .int 8221, .int 8226, .int 8211, .int 8212, .int 732, .int 8482, .int 353, .int 8250, .int 339, .int 0, .int 382, .int 376]),
  .ite (.land [.cmp (.int 128) [.le, .le] [.var 0, .int 159], .cmp (.item (.var 1) (.bin .sub (.var 0) (.int 128))) [.ne] [.int 0]]) [
    .ret (.item (.var 1) (.bin .sub (.var 0) (.int 128)))] [
],
  .ret (.var 0)]
noncomputable def names_is_surrogate : List PySem.Str := ["n"]
noncomputable def arity_is_surrogate : Nat := 1
noncomputable def P_is_surrogate : List XS := [
  .ret (.cmp (.int 55296) [.le, .le] [.var 0, .int 57343])]
noncomputable def names_lead_of : List PySem.Str := ["octet"]
noncomputable def arity_lead_of : Nat := 1
noncomputable def P_lead_of : List XS := [
  .ite (.cmp (.var 0) [.le] [.int 127]) [
    .ret (.tup [.int 0, .var 0, .int 128, .int 191])] [
],
  .ite (.land [.cmp (.var 0) [.ge] [.int 194], .cmp (.var 0) [.le] [.int 223]]) [
    .ret (.tup [.int 1, .bin .band (.var 0) (.int 31), .int 128, .int 191])] [
],
  .ite (.cmp (.var 0) [.eq] [.int 224]) [
    .ret (.tup [.int 2, .int 0, .int 160, .int 191])] [
],
  .ite (.cmp (.var 0) [.eq] [.int 237]) [
    .ret (.tup [.int 2, .int 13, .int 128, .int 159])] [
],
  .ite (.land [.cmp (.var 0) [.ge] [.int 225], .cmp (.var 0) [.le] [.int 239]]) [
    .ret (.tup [.int 2, .bin .band (.var 0) (.int 15), .int 128, .int 191])] [
],
  .ite (.cmp (.var 0) [.eq] [.int 240]) [
    .ret (.tup [.int 3, .int 0, .int 144, .int 191])] [
],
  .ite (.cmp (.var 0) [.eq] [.int 244]) [
    .ret (.tup [.int 3, .int 4, .int 128, .int 143])] [
],
  .ite (.land [.cmp (.var 0) [.ge] [.int 241], .cmp (.var 0) [.le] [.int 243]]) [
    .ret (.tup [.int 3, .bin .band (.var 0) (.int 7), .int 128, .int 191])] [
],
  .ret (.tup [.int 0, .int 65533, .int 128, .int 191])]
noncomputable def names_decode_utf8 : List PySem.Str := ["octets", "out", "needed", "code", "low", "high", "octet"]
noncomputable def arity_decode_utf8 : Nat := 1
noncomputable def P_decode_utf8 : List XS := [
  .newl 1,
  .unpack [2, 3, 4, 5] (.tup [.int 0, .int 0, .int 128, .int 191]),
  .for_ (.one 6) (.var 0) [
    .ite (.land [.cmp (.var 2) [.gt] [.int 0], .cmp (.var 6) [.ge] [.var 4], .cmp (.var 6) [.le] [.var 5]]) [
      .assign 3 (.bin .bor (.bin .shl (.var 3) (.int 6)) (.bin .band (.var 6) (.int 63))),
      .unpack [4, 5] (.tup [.int 128, .int 191]),
      .aug 2 (.int 1)] [
      .ite (.cmp (.var 2) [.gt] [.int 0]) [
        .append 1 (.str [65533])] [
],
      .unpack [2, 3, 4, 5] (.call 2 [.var 6])],
    .ite (.cmp (.var 2) [.eq] [.int 0]) [
      .append 1 (.prim .chr [.var 3])] [
]],
  .ite (.cmp (.var 2) [.gt] [.int 0]) [
    .append 1 (.str [65533])] [
],
  .freeze 1,
  .ret (.join (.var 1))]
noncomputable def names_decode_utf16 : List PySem.Str := ["octets", "is_big", "out", "lead", "at", "unit", "is_trail"]
noncomputable def arity_decode_utf16 : Nat := 2
noncomputable def P_decode_utf16 : List XS := [
  .newl 2,
  .assign 3 (.int 0),
  .for_ (.one 4) (.prim .range [.int 0, .bin .sub (.prim .len [.var 0]) (.int 1), .int 2]) [
    .assign 5 (.bin .add (.item (.var 0) (.var 4)) (.bin .shl (.item (.var 0) (.bin .add (.var 4) (.int 1))) (.int 8))),
    .ite (.var 1) [
      .assign 5 (.bin .add (.bin .shl (.item (.var 0) (.var 4)) (.int 8)) (.item (.var 0) (.bin .add (.var 4) (.int 1))))] [
],
    .assign 6 (.land [.cmp (.var 5) [.ge] [.int 56320], .cmp (.var 5) [.le] [.int 57343]]),
    .ite (.land [.cmp (.var 3) [.gt] [.int 0], .var 6]) [
      .append 2 (.prim .chr [.bin .sub (.bin .add (.bin .add (.int 65536) (.bin .shl (.bin .sub (.var 3) (.int 55296)) (.int 10))) (.var 5)) (.int 56320)]),
      .assign 3 (.int 0),
      .cont] [
],
    .ite (.cmp (.var 3) [.gt] [.int 0]) [
      .append 2 (.str [65533]),
      .assign 3 (.int 0)] [
],
    .ite (.land [.cmp (.var 5) [.ge] [.int 55296], .cmp (.var 5) [.le] [.int 56319]]) [
      .assign 3 (.var 5)] [
      .ite (.var 6) [
        .append 2 (.str [65533])] [
        .append 2 (.prim .chr [.var 5])]]],
  .ite (.lor [.cmp (.var 3) [.gt] [.int 0], .cmp (.bin .mod (.prim .len [.var 0]) (.int 2)) [.eq] [.int 1]]) [
    .append 2 (.str [65533])] [
],
  .freeze 2,
  .ret (.join (.var 2))]
noncomputable def names_user_sign : List PySem.Str := ["octet"]
noncomputable def arity_user_sign : Nat := 1
noncomputable def P_user_sign : List XS := [
  .ite (.cmp (.var 0) [.lt] [.int 128]) [
    .ret (.prim .chr [.var 0])] [
],
  .ret (.prim .chr [.bin .sub (.bin .add (.int 63360) (.var 0)) (.int 128)])]
noncomputable def names_decode : List PySem.Str := ["octets", "name"]
noncomputable def arity_decode : Nat := 2
noncomputable def P_decode : List XS := [
  .ite (.cmp (.var 1) [.eq] [.str [85, 84, 70, 45, 56]]) [
    .ite (.cmp (.cut (.var 0) (.int 0) (.int 3)) [.eq] [.bytes [239, 187, 191]]) [
      .ret (.call 3 [.from_ (.var 0) (.int 3)])] [
],
    .ret (.call 3 [.var 0])] [
],
  .ite (.cmp (.var 1) [.eq] [.str [85, 84, 70, 45, 49, 54, 66, 69]]) [
    .ite (.cmp (.cut (.var 0) (.int 0) (.int 2)) [.eq] [.bytes [254, 255]]) [
      .ret (.call 4 [.from_ (.var 0) (.int 2), .bool true])] [
],
    .ret (.call 4 [.var 0, .bool true])] [
],
  .ite (.cmp (.var 1) [.eq] [.str [85, 84, 70, 45, 49, 54, 76, 69]]) [
    .ite (.cmp (.cut (.var 0) (.int 0) (.int 2)) [.eq] [.bytes [255, 254]]) [
      .ret (.call 4 [.from_ (.var 0) (.int 2), .bool false])] [
],
    .ret (.call 4 [.var 0, .bool false])] [
],
  .ite (.cmp (.var 1) [.eq] [.str [119, 105, 110, 100, 111, 119, 115, 45, 49, 50, 53, 50]]) [
    .ret (.join (.comp (.prim .chr [.call 0 [.cvar]]) (.var 0)))] [
],
  .ite (.cmp (.var 1) [.eq] [.str [120, 45, 117, 115, 101, 114, 45, 100, 101, 102, 105, 110, 101, 100]]) [
    .ret (.join (.comp (.call 5 [.cvar]) (.var 0)))] [
],
  .stop]
noncomputable def names_utf8_octets : List PySem.Str := ["code"]
noncomputable def arity_utf8_octets : Nat := 1
noncomputable def P_utf8_octets : List XS := [
  .ite (.cmp (.var 0) [.lt] [.int 128]) [
    .ret (.lst [.var 0])] [
],
  .ite (.cmp (.var 0) [.lt] [.int 2048]) [
    .ret (.lst [.bin .bor (.int 192) (.bin .shr (.var 0) (.int 6)), .bin .bor (.int 128) (.bin .band (.var 0) (.int 63))])] [
],
  .ite (.cmp (.var 0) [.lt] [.int 65536]) [
    .ret (.lst [.bin .bor (.int 224) (.bin .shr (.var 0) (.int 12)), .bin .bor (.int 128) (.bin .band (.bin .shr (.var 0) (.int 6)) (.int 63)), .bin .bor (.int 128) (.bin .band (.var 0) (.int 63))])] [
],
  .ret (.lst [.bin .bor (.int 240) (.bin .shr (.var 0) (.int 18)), .bin .bor (.int 128) (.bin .band (.bin .shr (.var 0) (.int 12)) (.int 63)), .bin .bor (.int 128) (.bin .band (.bin .shr (.var 0) (.int 6)) (.int 63)), .bin .bor (.int 128) (.bin .band (.var 0) (.int 63))])]
noncomputable def names_octet_of : List PySem.Str := ["code", "name", "octet"]
noncomputable def arity_octet_of : Nat := 2
noncomputable def P_octet_of : List XS := [
  .ite (.cmp (.var 0) [.lt] [.int 128]) [
    .ret (.var 0)] [
],
  .ite (.cmp (.var 1) [.eq] [.str [120, 45, 117, 115, 101, 114, 45, 100, 101, 102, 105, 110, 101, 100]]) [
    .ite (.land [.cmp (.var 0) [.ge] [.int 63360], .cmp (.var 0) [.le] [.int 63487]]) [
      .ret (.bin .add (.bin .sub (.var 0) (.int 63360)) (.int 128))] [
],
    .ret (.int (-1))] [
],
  .ite (.land [.cmp (.var 0) [.ge] [.int 160], .cmp (.var 0) [.le] [.int 255]]) [
    .ret (.var 0)] [
],
  .for_ (.one 2) (.prim .range [.int 128, .int 160]) [
    .ite (.cmp (.call 0 [.var 2]) [.eq] [.var 0]) [
      .ret (.var 2)] [
]],
  .ret (.int (-1))]
noncomputable def names_octets_of : List PySem.Str := ["code", "name", "octet"]
noncomputable def arity_octets_of : Nat := 2
noncomputable def P_octets_of : List XS := [
  .ite (.cmp (.var 1) [.notin] [.tup [.str [119, 105, 110, 100, 111, 119, 115, 45, 49, 50, 53, 50], .str [120, 45, 117, 115, 101, 114, 45, 100, 101, 102, 105, 110, 101, 100]]]) [
    .ret (.call 7 [.var 0])] [
],
  .assign 2 (.call 8 [.var 0, .var 1]),
  .ite (.cmp (.var 2) [.ge] [.int 0]) [
    .ret (.lst [.var 2])] [
],
  .ret (.comp (.prim .ord [.cvar]) (.bin .add (.bin .add (.str [38, 35]) (.prim .str [.var 0])) (.str [59])))]
noncomputable def names_encode : List PySem.Str := ["text", "name", "out", "sign", "code"]
noncomputable def arity_encode : Nat := 2
noncomputable def P_encode : List XS := [
  .ite (.cmp (.var 1) [.notin] [.tup [.str [85, 84, 70, 45, 56], .str [85, 84, 70, 45, 49, 54, 66, 69], .str [85, 84, 70, 45, 49, 54, 76, 69], .str [119, 105, 110, 100, 111, 119, 115, 45, 49, 50, 53, 50], .str [120, 45, 117, 115, 101, 114, 45, 100, 101, 102, 105, 110, 101, 100]]]) [
    .stop] [
],
  .newl 2,
  .for_ (.one 3) (.var 0) [
    .assign 4 (.prim .ord [.var 3]),
    .ite (.call 1 [.var 4]) [
      .assign 4 (.int 65533)] [
],
    .extend 2 (.call 9 [.var 4, .var 1])],
  .freeze 2,
  .ret (.prim .bytes [.var 2])]
noncomputable def names_law_digit : List PySem.Str := ["script", "at"]
noncomputable def arity_law_digit : Nat := 2
noncomputable def P_law_digit : List XS := [
  .ret (.ife (.cmp (.var 1) [.lt] [.prim .len [.var 0]]) (.item (.var 0) (.var 1)) (.int 0))]
noncomputable def names_law_rows : List PySem.Str := ["tail"]
noncomputable def arity_law_rows : Nat := 0
noncomputable def P_law_rows : List XS := [
  .assign 0 (.tup [.int 128, .int 192]),
  .ret (.lst [.tup [.int 0, .lst [.tup [.int 0, .int 128]]], .tup [.int 128, .lst [.tup [.int 194, .int 224], .var 0]], .tup [.int 2048, .lst [.tup [.int 224, .int 225], .tup [.int 160, .int 192], .var 0]], .tup [.int 4096, .lst [.tup [.int 225, .int 237], .var 0, .var 0]], .tup [.int 53248, .lst [.tup [.int 237, .int 238], .tup [.int 128, .int 160], .var 0]], .tup [.int 57344, .lst [.tup [.int 238, .int 240], .var 0, .var 0]], .tup [.int 65536, .lst [.tup [.int 240, .int 241], .tup [.int 144, .int 192], .var 0, .var 0]], .tup [.int 262144, .lst [.tup [.int 241, .int 244], .var 0, .var 0, .var 0]], .tup [.int 1048576, .lst [.tup [.int 244, .int 245], .tup [.int 128, .int 144], .var 0, .var 0]]])]
noncomputable def names_law_form : List PySem.Str := ["lets", "count", "form", "k", "low", "behind"]
noncomputable def arity_law_form : Nat := 2
noncomputable def P_law_form : List XS := [
  .assign 2 (.lst []),
  .for_ (.one 3) (.prim .range [.bin .sub (.prim .len [.var 0]) (.int 1), .int (-1), .int (-1)]) [
    .unpack [4, 5] (.item (.var 0) (.var 3)),
    .assign 2 (.bin .add (.lst [.bin .add (.var 4) (.bin .mod (.var 1) (.bin .sub (.var 5) (.var 4)))]) (.var 2)),
    .assign 1 (.bin .fdiv (.var 1) (.bin .sub (.var 5) (.var 4)))],
  .ret (.var 2)]
noncomputable def names_law_spoiled : List PySem.Str := ["form", "number", "nth", "way", "rest", "place"]
noncomputable def arity_law_spoiled : Nat := 3
noncomputable def P_law_spoiled : List XS := [
  .assign 3 (.bin .mod (.bin .add (.var 1) (.var 2)) (.int 5)),
  .assign 4 (.bin .fdiv (.var 1) (.int 5)),
  .ite (.cmp (.var 3) [.eq] [.int 1]) [
    .ret (.upto (.var 0) (.bin .sub (.bin .sub (.prim .len [.var 0]) (.int 1)) (.bin .mod (.var 4) (.prim .len [.var 0]))))] [
],
  .ite (.cmp (.var 3) [.eq] [.int 2]) [
    .assign 5 (.bin .mod (.bin .fdiv (.var 4) (.int 256)) (.prim .len [.var 0])),
    .ret (.bin .add (.bin .add (.upto (.var 0) (.var 5)) (.lst [.bin .mod (.var 4) (.int 256)])) (.from_ (.var 0) (.bin .add (.var 5) (.int 1))))] [
],
  .ite (.cmp (.var 3) [.eq] [.int 3]) [
    .ret (.bin .add (.lst [.bin .mod (.var 4) (.int 256)]) (.var 0))] [
],
  .ite (.cmp (.var 3) [.eq] [.int 4]) [
    .ret (.comp (.bin .mod (.bin .fdiv (.var 4) (.bin .pow (.int 256) (.cvar))) (.int 256)) (.prim .range [.bin .add (.int 1) (.bin .mod (.bin .fdiv (.var 4) (.bin .pow (.int 256) (.int 3))) (.int 3))]))] [
],
  .ret (.var 0)]
noncomputable def names_law_utf8 : List PySem.Str := ["rows", "octets", "text", "at", "step", "sign", "least", "lets", "count", "many"]
noncomputable def arity_law_utf8 : Nat := 2
noncomputable def P_law_utf8 : List XS := [
  .ite (.cmp (.upto (.var 1) (.int 3)) [.eq] [.lst [.int 239, .int 187, .int 191]]) [
    .assign 1 (.from_ (.var 1) (.int 3))] [
],
  .assign 2 (.str []),
  .assign 3 (.int 0),
  .while_ (.cmp (.var 3) [.lt] [.prim .len [.var 1]]) [
    .assign 4 (.int 1),
    .assign 5 (.str [65533]),
    .for_ (.many [6, 7]) (.var 0) [
      .assign 8 (.int 0),
      .assign 9 (.int 0),
      .while_ (.land [.cmp (.var 9) [.lt] [.prim .len [.var 7]], .cmp (.bin .add (.var 3) (.var 9)) [.lt] [.prim .len [.var 1]], .cmp (.item (.item (.var 7) (.var 9)) (.int 0)) [.le, .lt] [.item (.var 1) (.bin .add (.var 3) (.var 9)), .item (.item (.var 7) (.var 9)) (.int 1)]]) [
        .assign 8 (.bin .sub (.bin .add (.bin .mul (.var 8) (.bin .sub (.item (.item (.var 7) (.var 9)) (.int 1)) (.item (.item (.var 7) (.var 9)) (.int 0)))) (.item (.var 1) (.bin .add (.var 3) (.var 9)))) (.item (.item (.var 7) (.var 9)) (.int 0))),
        .assign 9 (.bin .add (.var 9) (.int 1))],
      .assign 4 (.prim .max [.var 4, .var 9]),
      .ite (.cmp (.var 9) [.eq] [.prim .len [.var 7]]) [
        .assign 5 (.prim .chr [.bin .add (.var 6) (.var 8)])] [
]],
    .assign 2 (.bin .add (.var 2) (.var 5)),
    .assign 3 (.bin .add (.var 3) (.var 4))],
  .ret (.var 2)]
noncomputable def names_law_units : List PySem.Str := ["script", "edges", "units", "k", "number"]
noncomputable def arity_law_units : Nat := 1
noncomputable def P_law_units : List XS := [
  .assign 1 (.lst [.int 55357, .int 56832, .int 65, .int 55296, .int 56320, .int 56319, .int 57343, .int 55295, .int 57344, .int 65279, .int 65534, .int 216, .int 65535, .int 0]),
  .newl 2,
  .for_ (.one 3) (.prim .range [.int 6]) [
    .assign 4 (.call 11 [.var 0, .bin .add (.int 9) (.var 3)]),
    .append 2 (.ife (.cmp (.bin .mod (.var 4) (.int 2)) [.eq] [.int 0]) (.item (.var 1) (.bin .mod (.bin .add (.bin .fdiv (.var 4) (.int 2)) (.var 3)) (.int 14))) (.bin .mod (.bin .fdiv (.var 4) (.int 2)) (.int 65536)))],
  .freeze 2,
  .ret (.from_ (.var 2) (.bin .mod (.bin .fdiv (.call 11 [.var 0, .int 15]) (.int 512)) (.int 7)))]
noncomputable def names_law_utf16 : List PySem.Str := ["units", "is_odd", "text", "at", "unit"]
noncomputable def arity_law_utf16 : Nat := 2
noncomputable def P_law_utf16 : List XS := [
  .ite (.cmp (.upto (.var 0) (.int 1)) [.eq] [.lst [.int 65279]]) [
    .assign 0 (.from_ (.var 0) (.int 1))] [
],
  .assign 2 (.str []),
  .assign 3 (.bin .sub (.prim .len [.var 0]) (.int 1)),
  .ite (.var 1) [
    .assign 2 (.str [65533]),
    .ite (.land [.cmp (.var 3) [.ge] [.int 0], .cmp (.int 55296) [.le, .le] [.item (.var 0) (.var 3), .int 56319]]) [
      .assign 3 (.bin .sub (.var 3) (.int 1))] [
]] [
],
  .while_ (.cmp (.var 3) [.ge] [.int 0]) [
    .assign 4 (.item (.var 0) (.var 3)),
    .ite (.land [.cmp (.int 56320) [.le, .le] [.var 4, .int 57343], .cmp (.var 3) [.gt] [.int 0], .cmp (.int 55296) [.le, .le] [.item (.var 0) (.bin .sub (.var 3) (.int 1)), .int 56319]]) [
      .assign 2 (.bin .add (.prim .chr [.bin .sub (.bin .add (.bin .add (.int 65536) (.bin .mul (.bin .sub (.item (.var 0) (.bin .sub (.var 3) (.int 1))) (.int 55296)) (.int 1024))) (.var 4)) (.int 56320)]) (.var 2)),
      .assign 3 (.bin .sub (.var 3) (.int 2))] [
      .assign 2 (.bin .add (.ife (.cmp (.int 55296) [.le, .le] [.var 4, .int 57343]) (.str [65533]) (.prim .chr [.var 4])) (.var 2)),
      .assign 3 (.bin .sub (.var 3) (.int 1))]],
  .ret (.var 2)]
noncomputable def names_law_windows : List PySem.Str := []
noncomputable def arity_law_windows : Nat := 0
noncomputable def P_law_windows : List XS := [
  .ret (.lst [.int 8364, .int 129, .int 8218, .int 402, .int 8222, .int 8230, .int 8224, .int 8225, .int 710, .int 8240, .int 352, .int 8249, .int 338, .int 141, .int 381, .int 143, .int 144, .int 8216, .int 8217, .int 8220, .int 8221, .int 8226, .int 8211, .int 8212, .int 732, .int 8482, .int 353, .int 8250, .int 339, .int 157, .int 382, .int 376])]
noncomputable def names_law_point : List PySem.Str := ["number", "nth", "way", "rest", "edges"]
noncomputable def arity_law_point : Nat := 2
noncomputable def P_law_point : List XS := [
  .assign 2 (.bin .mod (.bin .add (.var 0) (.var 1)) (.int 4)),
  .assign 3 (.bin .fdiv (.var 0) (.int 4)),
  .assign 4 (.lst [.int 65279, .int 127, .int 128, .int 159, .int 160, .int 255, .int 256, .int 2047, .int 2048, .int 65535, .int 65536, .int 1114111, .int 55296, .int 57343]),
  .assign 4 (.bin .add (.var 4) (.lst [.int 55295, .int 57344, .int 65533, .int 130, .int 56320, .int 4095, .int 4096, .int 262143, .int 262144])),
  .ite (.cmp (.var 2) [.eq] [.int 0]) [
    .ret (.item (.call 18 []) (.bin .mod (.var 3) (.int 32)))] [
],
  .ite (.cmp (.var 2) [.eq] [.int 1]) [
    .ret (.bin .add (.int 63359) (.bin .mod (.var 3) (.int 130)))] [
],
  .ite (.cmp (.var 2) [.eq] [.int 2]) [
    .ret (.item (.var 4) (.bin .mod (.var 3) (.prim .len [.var 4])))] [
],
  .ret (.bin .mod (.var 3) (.int 1114112))]
noncomputable def names_law_singles : List PySem.Str := ["table", "points", "octets", "point"]
noncomputable def arity_law_singles : Nat := 2
noncomputable def P_law_singles : List XS := [
  .newl 2,
  .for_ (.one 3) (.var 1) [
    .ite (.cmp (.var 3) [.isin] [.var 0]) [
      .append 2 (.index (.var 0) (.var 3))] [
      .extend 2 (.comp (.prim .ord [.cvar]) (.bin .add (.bin .add (.str [38, 35]) (.prim .str [.var 3])) (.str [59])))]],
  .freeze 2,
  .ret (.var 2)]
noncomputable def names_law : List PySem.Str := ["script", "rows", "octets", "k", "number", "form", "units", "odd", "big", "little", "unit", "due", "points", "text", "forms", "point", "least", "lets", "wide", "kept", "windows", "user", "name", "table", "singles", "those"]
noncomputable def arity_law : Nat := 1
noncomputable def P_law : List XS := [
  .assign 1 (.call 12 []),
  .assign 2 (.item (.lst [.lst [], .lst [.int 239, .int 187, .int 191], .lst [.int 239, .int 187, .int 191, .int 239, .int 187, .int 191], .lst [.int 239, .int 187]]) (.bin .mod (.call 11 [.var 0, .int 8]) (.int 4))),
  .for_ (.one 3) (.prim .range [.int 4]) [
    .assign 4 (.call 11 [.var 0, .var 3]),
    .assign 5 (.call 13 [.item (.item (.var 1) (.bin .mod (.bin .add (.bin .add (.var 4) (.bin .mul (.int 2) (.var 3))) (.int 2)) (.int 9))) (.int 1), .bin .fdiv (.var 4) (.int 9)]),
    .assign 2 (.bin .add (.var 2) (.call 14 [.var 5, .call 11 [.var 0, .bin .add (.int 4) (.var 3)], .var 3]))],
  .ite (.cmp (.call 6 [.prim .bytes [.var 2], .str [85, 84, 70, 45, 56]]) [.ne] [.call 15 [.var 1, .var 2]]) [
    .ret (.bool false)] [
],
  .assign 6 (.call 16 [.var 0]),
  .assign 7 (.ife (.cmp (.bin .mod (.call 11 [.var 0, .int 15]) (.int 2)) [.eq] [.int 1]) (.lst [.bin .mod (.bin .fdiv (.call 11 [.var 0, .int 15]) (.int 2)) (.int 256)]) (.lst [])),
  .newl 8,
  .newl 9,
  .for_ (.one 10) (.var 6) [
    .extend 8 (.lst [.bin .fdiv (.var 10) (.int 256), .bin .mod (.var 10) (.int 256)]),
    .extend 9 (.lst [.bin .mod (.var 10) (.int 256), .bin .fdiv (.var 10) (.int 256)])],
  .assign 11 (.call 17 [.var 6, .cmp (.prim .len [.var 7]) [.eq] [.int 1]]),
  .freeze 8,
  .freeze 9,
  .ite (.lor [.cmp (.call 6 [.prim .bytes [.bin .add (.var 8) (.var 7)], .str [85, 84, 70, 45, 49, 54, 66, 69]]) [.ne] [.var 11], .cmp (.call 6 [.prim .bytes [.bin .add (.var 9) (.var 7)], .str [85, 84, 70, 45, 49, 54, 76, 69]]) [.ne] [.var 11]]) [
    .ret (.bool false)] [
],
  .assignC 12 (.comp (.call 19 [.call 11 [.var 0, .bin .add (.int 16) (.cvar)], .cvar]) (.prim .range [.int 5])),
  .assign 13 (.join (.comp (.prim .chr [.cvar]) (.var 12))),
  .assignC 12 (.comp (.ife (.cmp (.int 55296) [.le, .le] [.cvar, .int 57343]) (.int 65533) (.cvar)) (.var 12)),
  .newl 14,
  .for_ (.one 15) (.var 12) [
    .unpack [16, 17] (.item (.filt (.var 1) (.cmp (.item (.cvar) (.int 0)) [.le] [.var 15])) (.int (-1))),
    .extend 14 (.call 13 [.var 17, .bin .sub (.var 15) (.var 16)])],
  .assign 18 (.item (.lst [.str [85, 84, 70, 45, 49, 54, 76, 69], .str [85, 84, 70, 45, 49, 54, 66, 69]]) (.bin .mod (.call 11 [.var 0, .int 21]) (.int 2))),
  .freeze 14,
  .ite (.lor [.cmp (.call 10 [.var 13, .str [85, 84, 70, 45, 56]]) [.ne] [.prim .bytes [.var 14]], .cmp (.call 10 [.var 13, .var 18]) [.ne] [.prim .bytes [.var 14]]]) [
    .ret (.bool false)] [
],
  .assign 19 (.ife (.cmp (.item (.var 12) (.int 0)) [.eq] [.int 65279]) (.from_ (.var 12) (.int 1)) (.var 12)),
  .ite (.cmp (.call 6 [.prim .bytes [.var 14], .str [85, 84, 70, 45, 56]]) [.ne] [.join (.comp (.prim .chr [.cvar]) (.var 19))]) [
    .ret (.bool false)] [
],
  .assign 20 (.bin .add (.bin .add (.prim .list [.prim .range [.int 128]]) (.call 18 [])) (.prim .list [.prim .range [.int 160, .int 256]])),
  .assign 21 (.bin .add (.prim .list [.prim .range [.int 128]]) (.prim .list [.prim .range [.int 63360, .int 63488]])),
  .for_ (.many [22, 23]) (.lst [.tup [.str [119, 105, 110, 100, 111, 119, 115, 45, 49, 50, 53, 50], .var 20], .tup [.str [120, 45, 117, 115, 101, 114, 45, 100, 101, 102, 105, 110, 101, 100], .var 21]]) [
    .assign 24 (.call 20 [.var 23, .var 12]),
    .ite (.cmp (.call 10 [.var 13, .var 22]) [.ne] [.prim .bytes [.var 24]]) [
      .ret (.bool false)] [
],
    .for_ (.one 25) (.lst [.var 24, .var 2, .var 8]) [
      .ite (.cmp (.call 6 [.prim .bytes [.var 25], .var 22]) [.ne] [.join (.comp (.prim .chr [.item (.var 23) (.cvar)]) (.var 25))]) [
        .ret (.bool false)] [
]]],
  .assign 22 (.item (.lst [.str [83, 104, 105, 102, 116, 95, 74, 73, 83], .str [117, 116, 102, 45, 56], .str [85, 84, 70, 45, 49, 54], .str [71, 66, 75], .str [119, 105, 110, 100, 111, 119, 115, 45, 49, 50, 53, 49], .str [114, 101, 112, 108, 97, 99, 101, 109, 101, 110, 116], .str []]) (.bin .mod (.bin .fdiv (.call 11 [.var 0, .int 21]) (.int 2)) (.int 7)))]

noncomputable def progs : Nat → List PySem.Str × Nat × List XS
  | 0 => (names_c1_reference, arity_c1_reference, P_c1_reference)
  | 1 => (names_is_surrogate, arity_is_surrogate, P_is_surrogate)
  | 2 => (names_lead_of, arity_lead_of, P_lead_of)
  | 3 => (names_decode_utf8, arity_decode_utf8, P_decode_utf8)
  | 4 => (names_decode_utf16, arity_decode_utf16, P_decode_utf16)
  | 5 => (names_user_sign, arity_user_sign, P_user_sign)
  | 6 => (names_decode, arity_decode, P_decode)
  | 7 => (names_utf8_octets, arity_utf8_octets, P_utf8_octets)
  | 8 => (names_octet_of, arity_octet_of, P_octet_of)
  | 9 => (names_octets_of, arity_octets_of, P_octets_of)
  | 10 => (names_encode, arity_encode, P_encode)
  | 11 => (names_law_digit, arity_law_digit, P_law_digit)
  | 12 => (names_law_rows, arity_law_rows, P_law_rows)
  | 13 => (names_law_form, arity_law_form, P_law_form)
  | 14 => (names_law_spoiled, arity_law_spoiled, P_law_spoiled)
  | 15 => (names_law_utf8, arity_law_utf8, P_law_utf8)
  | 16 => (names_law_units, arity_law_units, P_law_units)
  | 17 => (names_law_utf16, arity_law_utf16, P_law_utf16)
  | 18 => (names_law_windows, arity_law_windows, P_law_windows)
  | 19 => (names_law_point, arity_law_point, P_law_point)
  | 20 => (names_law_singles, arity_law_singles, P_law_singles)
  | _ => ([], 0, [])

/-- what the functions of the text answer -/
noncomputable def Fn (wf : Nat) : Nat → FTab
  | 0 => fun _ _ => none
  | i + 1 => fun f ds => if f < i then Fn wf i f ds else if f = i then (if ds.length = (progs i).2.1 then match exS (Fn wf i) wf (start (progs i).1.length (progs i).2.1 ds) (progs i).2.2 with
      | some (.ret d) => some d
      | _ => none else none) else none

noncomputable def allChk (p : Program) : Bool := (List.range 21).all fun i => (recsOf p).any fun d => fnNames[i]? == some d.name && chkFn (progs i).1 (progs i).2.1 fnNames (progs i).2.2 d

section
variable {prog p : Program} {w : World} {A : Around} {h₀ : Heap} {mg mb : PySem.Str → Option Value} {loose : List PySem.Str} {mean : ExcName → Option Value} {wf : Nat}

noncomputable def faOf (mg : PySem.Str → Option Value) (f : Nat) : Addr := match fnNames[f]? with
  | some g => (match mg g with | some (.ref a) => a | _ => 0)
  | none => 0

theorem gl_of (T : Top p loose mean mg mb h₀) (hc : allChk p = true) (hp : NoPrim mg) : Gl h₀ mg mb fnNames (faOf mg) where
  g := T.g
  b := T.b
  nolimit := T.nolimit
  bi := T.builtins
  prim := hp.prim
  exc := hp.exc
  fns := fun f g hg => by
    have hlt : f < 21 := (List.getElem?_eq_some_iff.mp hg).1
    have := List.all_eq_true.mp hc f (List.mem_range.mpr hlt)
    obtain ⟨d, hd, hx⟩ := List.any_eq_true.mp this
    simp only [Bool.and_eq_true, beq_iff_eq] at hx
    obtain ⟨a, o, pm, code, doc, h1, h2, h3, h4⟩ := T.fn d hd
    rw [hg] at hx
    have hn : g = d.name := Option.some.inj hx.1
    have e : faOf mg f = a := by
      unfold faOf
      rw [hg]
      simp only
      rw [hn, h1]
    rw [e]
    exact ⟨by rw [hn]; exact h1, o, _, h2, h3⟩

theorem all_ok (T : Top p loose mean mg mb h₀) (hc : allChk p = true) (hp : NoPrim mg) : ∀ (i : Nat) (A : Around), i ≤ 21 → Room A i → ∀ f ds d, Fn wf i f ds = some d → CallOk prog w A h₀ (faOf mg f) ds d
  | 0, A, _, _, f, ds, d, h => by simp [Fn] at h
  | i + 1, A, hi, hA, f, ds, d, h => by
    have mono : Room A i := ⟨hA.hh, by have := hA.depth; omega, by have := hA.units; omega⟩
    simp only [Fn] at h
    split at h
    · exact all_ok T hc hp i A (by omega) mono f ds d h
    · split at h
      · rename_i hfi
        subst hfi
        split at h
        · rename_i hlen
          split at h
          · rename_i d' he
            cases h
            have := List.all_eq_true.mp hc f (List.mem_range.mpr (by omega))
            obtain ⟨dr, hd, hx⟩ := List.any_eq_true.mp this
            simp only [Bool.and_eq_true, beq_iff_eq] at hx
            obtain ⟨a, o, pm, code, doc, h1, h2, h3, h4⟩ := T.fn dr hd
            have e : faOf mg f = a := by
              unfold faOf
              rw [hx.1]
              simp only
              rw [h1]
            rw [e]
            exact fn_ok hx.2 (gl_of T hc hp) hA h2 h3 h4 (fun A' hA' => all_ok T hc hp f A' (by omega) hA') hlen he
          · cases h
        · cases h
      · cases h
end
end Mine

namespace Mine
open PySem PySem.W PySem.Calls PyProof.Rows PySem.SeqAt

section
variable {wf i k : Nat} {ds : List D} {d : D} {F : FTab}

theorem Fn_low : ∀ {i : Nat}, k < i → Fn wf i k ds = Fn wf (k + 1) k ds
  | 0, h => by omega
  | i + 1, h => by
    by_cases e : k = i
    · rw [e]
    · have h' : k < i := by omega
      rw [Fn]
      show (if k < i then Fn wf i k ds else _) = _
      rw [if_pos h', Fn_low h']

theorem F_ret (hk : k < i) (hl : ds.length = (progs k).2.1) (he : exS (Fn wf k) wf (start (progs k).1.length (progs k).2.1 ds) (progs k).2.2 = some (.ret d)) : Fn wf i k ds = some d := by
  rw [Fn_low hk, Fn]
  show (if k < k then _ else if k = k then _ else _) = _
  rw [if_neg (Nat.lt_irrefl k), if_pos rfl, if_pos hl, he]

theorem exS_app {σ : List Slot} : ∀ (xs ys : List XS) {σ : List Slot}, exS F wf σ (xs ++ ys) = (match exS F wf σ xs with
    | some (.next σ') => exS F wf σ' ys
    | r => r)
  | [], ys, σ => by simp [exS]
  | x :: xs, ys, σ => by
    rw [List.cons_append, exS, exS]
    cases h : exX F wf σ x with
    | none => rfl
    | some o => cases o <;> simp [exS_app (σ := σ) xs ys]

theorem exS_next {σ σ' : List Slot} {x : XS} {xs : List XS} (h : exX F wf σ x = some (.next σ')) : exS F wf σ (x :: xs) = exS F wf σ' xs := by rw [exS, h]
theorem exS_ret {σ : List Slot} {x : XS} {xs : List XS} (h : exX F wf σ x = some (.ret d)) : exS F wf σ (x :: xs) = some (.ret d) := by rw [exS, h]
end

/-! one step of the evaluator each -/
section
variable {F : FTab} {wf : Nat} {σ σ' : List Slot} {cv : Option D} {a b c : X} {x y z d : D} {r : Bool} {k : Int}
theorem e_var {i : Nat} (h : σ[i]? = some (.val d)) : evE F σ cv (.var i) = some d := by rw [evE, h]
theorem e_bin {op : BOp} (ha : evE F σ cv a = some x) (hb : evE F σ cv b = some y) (h : evBin op x y = some d) : evE F σ cv (.bin op a b) = some d := by rw [evE, ha, hb]; exact h
theorem e_add {i j : Int} (ha : evE F σ cv a = some (.int i)) (hb : evE F σ cv b = some (.int j)) : evE F σ cv (.bin .add a b) = some (.int (i + j)) := e_bin ha hb (by simp only [evBin])
theorem e_sub {i j : Int} (ha : evE F σ cv a = some (.int i)) (hb : evE F σ cv b = some (.int j)) : evE F σ cv (.bin .sub a b) = some (.int (i - j)) := e_bin ha hb (by simp only [evBin])
theorem e_mul {i j : Int} (ha : evE F σ cv a = some (.int i)) (hb : evE F σ cv b = some (.int j)) (h : -1073741824 < j ∧ j < 1073741824) : evE F σ cv (.bin .mul a b) = some (.int (i * j)) := e_bin ha hb (by simp only [evBin]; rw [if_pos h])
theorem e_mod {i j : Int} (ha : evE F σ cv a = some (.int i)) (hb : evE F σ cv b = some (.int j)) (h : 0 < j ∧ j < 1073741824) : evE F σ cv (.bin .mod a b) = some (.int (i % j)) := e_bin ha hb (by simp only [evBin]; rw [if_pos h])
theorem e_fdiv {i j : Int} (ha : evE F σ cv a = some (.int i)) (hb : evE F σ cv b = some (.int j)) (h : 0 < j ∧ j < 1073741824) : evE F σ cv (.bin .fdiv a b) = some (.int (i / j)) := e_bin ha hb (by simp only [evBin]; rw [if_pos h])
theorem e_cat {i j : List D} (ha : evE F σ cv a = some (.lst i)) (hb : evE F σ cv b = some (.lst j)) (h : i.length + j.length ≤ big) : evE F σ cv (.bin .add a b) = some (.lst (i ++ j)) := e_bin ha hb (by simp only [evBin]; rw [if_pos h])
theorem e_cats {i j : List Nat} (ha : evE F σ cv a = some (.str i)) (hb : evE F σ cv b = some (.str j)) (h : i.length + j.length ≤ big) : evE F σ cv (.bin .add a b) = some (.str (i ++ j)) := e_bin ha hb (by simp only [evBin]; rw [if_pos h])
theorem e_int (i : Int) : evE F σ cv (.int i) = some (.int i) := by rw [evE]
theorem e_str (i : List Nat) : evE F σ cv (.str i) = some (.str i) := by rw [evE]
theorem e_bool (i : Bool) : evE F σ cv (.bool i) = some (.bool i) := by rw [evE]
theorem e_cvar : evE F σ (some d) .cvar = some d := by rw [evE]
theorem e_lt {i j : Int} (ha : evE F σ cv a = some (.int i)) (hb : evE F σ cv b = some (.int j)) : evE F σ cv (.cmp a [.lt] [b]) = some (.bool (decide (i < j))) := by
  rw [evE, ha]; simp only [evEs, hb, chain, evCmp]
theorem e_le {i j : Int} (ha : evE F σ cv a = some (.int i)) (hb : evE F σ cv b = some (.int j)) : evE F σ cv (.cmp a [.le] [b]) = some (.bool (decide (i ≤ j))) := by
  rw [evE, ha]; simp only [evEs, hb, chain, evCmp]
theorem e_gt {i j : Int} (ha : evE F σ cv a = some (.int i)) (hb : evE F σ cv b = some (.int j)) : evE F σ cv (.cmp a [.gt] [b]) = some (.bool (decide (j < i))) := by
  rw [evE, ha]; simp only [evEs, hb, chain, evCmp]
theorem e_ge {i j : Int} (ha : evE F σ cv a = some (.int i)) (hb : evE F σ cv b = some (.int j)) : evE F σ cv (.cmp a [.ge] [b]) = some (.bool (decide (j ≤ i))) := by
  rw [evE, ha]; simp only [evEs, hb, chain, evCmp]
theorem e_eqi {i j : Int} (ha : evE F σ cv a = some (.int i)) (hb : evE F σ cv b = some (.int j)) : evE F σ cv (.cmp a [.eq] [b]) = some (.bool (decide (i = j))) := by
  rw [evE, ha]; simp only [evEs, hb, chain, evCmp, evEq]
  congr 3
theorem e_lele {i j k : Int} (ha : evE F σ cv a = some (.int i)) (hb : evE F σ cv b = some (.int j)) (hc : evE F σ cv c = some (.int k)) : evE F σ cv (.cmp a [.le, .le] [b, c]) = some (.bool (decide (i ≤ j ∧ j ≤ k))) := by
  rw [evE, ha]; simp only [evEs, hb, hc, chain, evCmp]
  by_cases h : i ≤ j <;> simp [h]
theorem e_lelt {i j k : Int} (ha : evE F σ cv a = some (.int i)) (hb : evE F σ cv b = some (.int j)) (hc : evE F σ cv c = some (.int k)) : evE F σ cv (.cmp a [.le, .lt] [b, c]) = some (.bool (decide (i ≤ j ∧ j < k))) := by
  rw [evE, ha]; simp only [evEs, hb, hc, chain, evCmp]
  by_cases h : i ≤ j <;> simp [h]
theorem e_and2 {p q : Bool} (ha : evE F σ cv a = some (.bool p)) (hb : p = true → evE F σ cv b = some (.bool q)) : evE F σ cv (.land [a, b]) = some (.bool (p && q)) := by
  rw [evE]
  cases p
  · simp only [evEs, ha, allB, Bool.false_and]
  · simp only [evEs, ha, hb rfl, allB, Bool.true_and]
theorem e_and3 {p q r : Bool} (ha : evE F σ cv a = some (.bool p)) (hb : p = true → evE F σ cv b = some (.bool q)) (hc : p = true → q = true → evE F σ cv c = some (.bool r)) : evE F σ cv (.land [a, b, c]) = some (.bool (p && (q && r))) := by
  rw [evE]
  cases p
  · simp only [evEs, ha, allB, Bool.false_and]
  · cases q
    · simp only [evEs, ha, hb rfl, allB, Bool.true_and, Bool.false_and]
    · simp only [evEs, ha, hb rfl, hc rfl rfl, allB, Bool.true_and]
theorem e_or2 {p q : Bool} (ha : evE F σ cv a = some (.bool p)) (hb : p = false → evE F σ cv b = some (.bool q)) : evE F σ cv (.lor [a, b]) = some (.bool (p || q)) := by
  rw [evE]
  cases p
  · simp only [evEs, ha, hb rfl, anyB', Bool.false_or]
  · simp only [evEs, ha, anyB', Bool.true_or]
theorem e_cmp1 {op : COp} (ha : evE F σ cv a = some x) (hb : evE F σ cv b = some y) (h : evCmp op x y = some r) : evE F σ cv (.cmp a [op] [b]) = some (.bool r) := by
  rw [evE, ha]; simp only [evEs, hb, chain, h]
theorem e_cmp2t {o1 o2 : COp} (ha : evE F σ cv a = some x) (hb : evE F σ cv b = some y) (hc : evE F σ cv c = some z) (h1 : evCmp o1 x y = some true) (h2 : evCmp o2 y z = some r) :
    evE F σ cv (.cmp a [o1, o2] [b, c]) = some (.bool r) := by
  rw [evE, ha]; simp only [evEs, hb, hc, chain, h1, h2]
theorem e_cmp2f {o1 o2 : COp} (ha : evE F σ cv a = some x) (hb : evE F σ cv b = some y) (h1 : evCmp o1 x y = some false) :
    evE F σ cv (.cmp a [o1, o2] [b, c]) = some (.bool false) := by
  rw [evE, ha]; simp only [evEs, hb, chain, h1]
theorem e_and_nil (ha : evE F σ cv a = some (.bool r)) : evE F σ cv (.land [a]) = some (.bool r) := by rw [evE]; simp only [evEs, ha, allB]
theorem e_and_f {l : List X} (ha : evE F σ cv a = some (.bool false)) : evE F σ cv (.land (a :: b :: l)) = some (.bool false) := by rw [evE]; simp only [evEs, ha, allB]
theorem e_and_t {l : List X} (ha : evE F σ cv a = some (.bool true)) (h : evE F σ cv (.land (b :: l)) = some (.bool r)) : evE F σ cv (.land (a :: b :: l)) = some (.bool r) := by
  rw [evE] at h ⊢
  simp only [evEs, ha, allB] at h ⊢
  exact h
theorem e_or_nil (ha : evE F σ cv a = some (.bool r)) : evE F σ cv (.lor [a]) = some (.bool r) := by rw [evE]; simp only [evEs, ha, anyB']
theorem e_or_t {l : List X} (ha : evE F σ cv a = some (.bool true)) : evE F σ cv (.lor (a :: b :: l)) = some (.bool true) := by rw [evE]; simp only [evEs, ha, anyB']
theorem e_or_f {l : List X} (ha : evE F σ cv a = some (.bool false)) (h : evE F σ cv (.lor (b :: l)) = some (.bool r)) : evE F σ cv (.lor (a :: b :: l)) = some (.bool r) := by
  rw [evE] at h ⊢
  simp only [evEs, ha, anyB'] at h ⊢
  exact h
theorem e_ife_t (h : evE F σ cv a = some (.bool true)) (hb : evE F σ cv b = some d) : evE F σ cv (.ife a b c) = some d := by rw [evE, h]; exact hb
theorem e_ife_f (h : evE F σ cv a = some (.bool false)) (hc : evE F σ cv c = some d) : evE F σ cv (.ife a b c) = some d := by rw [evE, h]; exact hc
theorem e_item (ha : evE F σ cv a = some x) (hb : evE F σ cv b = some (.int k)) (h : evItem x k = some d) : evE F σ cv (.item a b) = some d := by rw [evE, ha, hb]; exact h
theorem e_from (ha : evE F σ cv a = some x) (hb : evE F σ cv b = some (.int k)) (h : evCut x (some k) none = some d) : evE F σ cv (.from_ a b) = some d := by rw [evE, ha, hb]; exact h
theorem e_upto (ha : evE F σ cv a = some x) (hb : evE F σ cv b = some (.int k)) (h : evCut x none (some k) = some d) : evE F σ cv (.upto a b) = some d := by rw [evE, ha, hb]; exact h
theorem e_cut {j : Int} (ha : evE F σ cv a = some x) (hb : evE F σ cv b = some (.int k)) (hc : evE F σ cv c = some (.int j)) (h : evCut x (some k) (some j) = some d) : evE F σ cv (.cut a b c) = some d := by rw [evE, ha, hb, hc]; exact h
theorem e_args0 : seqO (evEs F σ cv []) = some [] := rfl
theorem e_args {l : List X} {ds : List D} (ha : evE F σ cv a = some x) (h : seqO (evEs F σ cv l) = some ds) : seqO (evEs F σ cv (a :: l)) = some (x :: ds) := by rw [evEs, ha, seqO, h]
theorem e_tup {l : List X} {ds : List D} (h : seqO (evEs F σ cv l) = some ds) : evE F σ cv (.tup l) = some (.tup ds) := by rw [evE, h]
theorem e_lst {l : List X} {ds : List D} (h : seqO (evEs F σ cv l) = some ds) : evE F σ cv (.lst l) = some (.lst ds) := by rw [evE, h]
theorem e_call {f : Nat} {l : List X} {ds : List D} (h : seqO (evEs F σ cv l) = some ds) (hf : F f ds = some d) : evE F σ cv (.call f l) = some d := by rw [evE, h]; exact hf
theorem e_prim {p : Prim} {l : List X} {ds : List D} (h : seqO (evEs F σ cv l) = some ds) (hf : evPrim p ds = some d) : evE F σ cv (.prim p l) = some d := by rw [evE, h]; exact hf
theorem e_join (ha : evE F σ cv a = some x) (h : evJoin x = some d) : evE F σ cv (.join a) = some d := by rw [evE, ha]; exact h
theorem e_index (ha : evE F σ cv a = some x) (hb : evE F σ cv b = some y) (h : evIndex x y = some d) : evE F σ cv (.index a b) = some d := by rw [evE, ha, hb]; exact h
theorem e_comp {l r : List D} (ha : evE F σ none b = some x) (hi : itemsOf x = some l) (h : compL (fun d => evE F σ (some d) a) l = some r) : evE F σ none (.comp a b) = some (.lst r) := by
  rw [evE]; simp only [ha, hi, h]
theorem e_filt {l r : List D} (ha : evE F σ none a = some x) (hi : itemsOf x = some l) (h : filtL (fun d => evE F σ (some d) b) l = some r) : evE F σ none (.filt a b) = some (.lst r) := by
  rw [evE]; simp only [ha, hi, h]

theorem s_assign {i : Nat} (h : evE F σ none a = some d) : exX F wf σ (.assign i a) = some (.next (σ.set i (.val d))) := by rw [exX, h]
theorem s_assignC {i : Nat} (h : evE F σ none a = some d) : exX F wf σ (.assignC i a) = some (.next (σ.set i (.val d))) := by rw [exX, h]
theorem s_unpack {l : List Nat} (h : evE F σ none a = some d) (hs : setT (.many l) d σ = some σ') : exX F wf σ (.unpack l a) = some (.next σ') := by rw [exX, h]; simp only [hs]
theorem s_append {i : Nat} (h : evE F σ none a = some d) (hs : evAppend σ i [d] = some σ') : exX F wf σ (.append i a) = some (.next σ') := by rw [exX, h]; simp only [hs]
theorem s_extend {i : Nat} {l : List D} (h : evE F σ none a = some (.lst l)) (hs : evAppend σ i l = some σ') : exX F wf σ (.extend i a) = some (.next σ') := by rw [exX, h]; simp only [hs]
theorem s_freeze {i : Nat} {ds : List D} (h : σ[i]? = some (.own ds)) : exX F wf σ (.freeze i) = some (.next (σ.set i (.val (.lst ds)))) := by rw [exX, h]
theorem s_ite_t {p q : List XS} (h : evE F σ none a = some (.bool true)) : exX F wf σ (.ite a p q) = exS F wf σ p := by rw [exX, h]
theorem s_ite_f {p q : List XS} (h : evE F σ none a = some (.bool false)) : exX F wf σ (.ite a p q) = exS F wf σ q := by rw [exX, h]
theorem s_ret (h : evE F σ none a = some d) : exX F wf σ (.ret a) = some (.ret d) := by rw [exX, h]
theorem s_while {p : List XS} {o : Out} (h : whileL (fun σ => evE F σ none a) (fun σ => exS F wf σ p) wf σ = some o) : exX F wf σ (.while_ a p) = some o := by rw [exX]; exact h
theorem s_for {t : T} {p : List XS} {l : List D} {o : Out} (h1 : evE F σ none a = some d) (h2 : itemsFor t d = some l) (h : forL (fun d σ => match setT t d σ with
      | some σ' => exS F wf σ' p
      | none => none) l σ = some o) : exX F wf σ (.for_ t a p) = some o := by rw [exX, h1]; simp only [h2]; exact h
theorem exS_one {xs : XS} : exS F wf σ [xs] = exX F wf σ xs := by
  rw [exS]
  generalize exX F wf σ xs = r
  cases r with
  | none => rfl
  | some o => cases o <;> simp [exS]
theorem exS_nil : exS F wf σ [] = some (.next σ) := by rw [exS]

theorem wl_false {t : List Slot → Option D} {g : List Slot → Option Out} {n : Nat} (h : t σ = some (.bool false)) : whileL t g (n + 1) σ = some (.next σ) := by rw [whileL, h]
theorem wl_next {t : List Slot → Option D} {g : List Slot → Option Out} {n : Nat} (h : t σ = some (.bool true)) (hg : g σ = some (.next σ')) : whileL t g (n + 1) σ = whileL t g n σ' := by
  rw [whileL, h]
  simp only [hg]

/-- items -/
theorem i_lst {l : List D} {n : Nat} (hk : k = n) (hn : n < big) (h : l[n]? = some d) : evItem (.lst l) k = some d := by
  subst hk
  have h1 : ¬ ((n : Int) < 0) := by omega
  have h2 : (n : Int) < (big : Int) := by omega
  simp only [evItem, if_neg h1, if_pos h2, Int.toNat_natCast, h]
theorem i_tup {l : List D} {n : Nat} (hk : k = n) (hn : n < big) (h : l[n]? = some d) : evItem (.tup l) k = some d := by
  subst hk
  have h2 : 0 ≤ (n : Int) ∧ (n : Int) < (big : Int) := by omega
  simp only [evItem, if_pos h2, Int.toNat_natCast, h]
theorem i_bytes {l : List Int} {n : Nat} {v : Int} (hk : k = n) (hn : l.length ≤ big) (h : l[n]? = some v) : evItem (.bytes l) k = some (.int v) := by
  subst hk
  have h3 := (List.getElem?_eq_some_iff.mp h).1
  have h2 : 0 ≤ (n : Int) ∧ (n : Int) < (big : Int) ∧ l.length ≤ big := by omega
  simp only [evItem, if_pos h2, Int.toNat_natCast, h, Option.map_some]
theorem i_last {l : List D} (hl : l.length ≤ big) (h : l.getLast? = some d) : evItem (.lst l) (-1) = some d := by
  have hne : l ≠ [] := fun e => by rw [e] at h; cases h
  have hp : 0 < l.length := List.length_pos_iff.mpr hne
  have h2 : 0 ≤ (-1 : Int) + l.length ∧ l.length ≤ big := by omega
  have h3 : ((-1 : Int) + l.length).toNat = l.length - 1 := by omega
  simp only [evItem]
  rw [if_pos (by omega), if_pos h2, h3]
  rw [List.getLast?_eq_getElem?] at h
  exact h
theorem p_len {l : List D} (h : l.length ≤ big) : evPrim .len [.lst l] = some (.int l.length) := by simp only [evPrim, if_pos h]
theorem p_lenB {l : List Int} (h : l.length ≤ big) : evPrim .len [.bytes l] = some (.int l.length) := by simp only [evPrim, if_pos h]
theorem p_chr {i : Int} (h0 : 0 ≤ i) (h1 : i ≤ 1114111) : evPrim .chr [.int i] = some (.str [i.toNat]) := by simp only [evPrim, if_pos (And.intro h0 h1)]
end

theorem F_sur {wf i : Nat} (hi : 1 < i) (n : Int) : Fn wf i 1 [.int n] = some (.bool (decide (55296 ≤ n) && decide (n ≤ 57343))) := by
  refine F_ret hi rfl ?_
  show exS _ _ [.val (.int n)] P_is_surrogate = _
  by_cases h1 : 55296 ≤ n <;> by_cases h2 : n ≤ 57343 <;> simp [P_is_surrogate, exS, exX, evE, evEs, chain, evCmp, h1, h2]

theorem F_digit {wf i : Nat} (hi : 11 < i) (l : List Int) (k : Nat) (hl : l.length ≤ big) (hk : k < 100) : Fn wf i 11 [.lst (l.map .int), .int k] = some (.int (l.getD k 0)) := by
  refine F_ret hi rfl ?_
  show exS _ _ [.val (.lst (l.map .int)), .val (.int k)] P_law_digit = _
  by_cases h : k < l.length
  · have hb : k < big := by unfold big; omega
    have hn : ¬ ((k : Int) < 0) := by omega
    simp [P_law_digit, exS, exX, evE, evEs, chain, evCmp, evPrim, evItem, seqO, hl, h, hb, hn, List.getD]
  · simp [P_law_digit, exS, exX, evE, evEs, chain, evCmp, evPrim, evItem, seqO, hl, h, List.getD]

/-! bits -/
theorem band_mod {x : Int} (k : Nat) (hx : 0 ≤ x) : Builtin.bitAnd x ((2 ^ k - 1 : Nat) : Int) = x % (2 ^ k : Nat) := by
  rw [bitAnd_pp hx (by omega), Int.toNat_natCast, Nat.and_two_pow_sub_one_eq_mod]
  rw [Int.natCast_emod, Int.toNat_of_nonneg hx]
theorem bor_low {a y : Int} (k : Nat) (ha : 0 ≤ a) (hy : 0 ≤ y) (h : y < (2 ^ k : Nat)) : Builtin.bitOr (a * (2 ^ k : Nat)) y = a * (2 ^ k : Nat) + y := by
  obtain ⟨a, rfl⟩ := Int.eq_ofNat_of_zero_le ha
  obtain ⟨y, rfl⟩ := Int.eq_ofNat_of_zero_le hy
  have hy' : y < 2 ^ k := by exact_mod_cast h
  rw [bitOr_and]
  have h0 : (0 : Int) ≤ (a : Int) * (2 ^ k : Nat) := by exact_mod_cast Nat.zero_le _
  rw [bitAnd_pp h0 (by omega)]
  have e1 : ((a : Int) * (2 ^ k : Nat)).toNat = a * 2 ^ k := by
    rw [← Int.natCast_mul, Int.toNat_natCast]
  rw [e1, Int.toNat_natCast]
  have e2 := nat_or_add_and (a * 2 ^ k) y
  have e3 := Nat.two_pow_add_eq_or_of_lt hy' a
  rw [Nat.mul_comm] at e3
  rw [← e3] at e2
  have : a * 2 ^ k &&& y = 0 := by omega
  rw [this]
  simp
theorem band63 {x : Int} (hx : 0 ≤ x) : Builtin.bitAnd x 63 = x % 64 := band_mod 6 hx
theorem band31 {x : Int} (hx : 0 ≤ x) : Builtin.bitAnd x 31 = x % 32 := band_mod 5 hx
theorem band15 {x : Int} (hx : 0 ≤ x) : Builtin.bitAnd x 15 = x % 16 := band_mod 4 hx
theorem band7 {x : Int} (hx : 0 ≤ x) : Builtin.bitAnd x 7 = x % 8 := band_mod 3 hx
theorem bor64 {a y : Int} (ha : 0 ≤ a) (hy : 0 ≤ y) (h : y < 64) : Builtin.bitOr (a * 64) y = a * 64 + y := bor_low 6 ha hy h
theorem bor_192 {y : Int} (hy : 0 ≤ y) (h : y < 64) : Builtin.bitOr 192 y = 192 + y := bor_low (a := 3) 6 (by omega) hy h
theorem bor_128 {y : Int} (hy : 0 ≤ y) (h : y < 64) : Builtin.bitOr 128 y = 128 + y := bor_low (a := 2) 6 (by omega) hy h
theorem bor_224 {y : Int} (hy : 0 ≤ y) (h : y < 16) : Builtin.bitOr 224 y = 224 + y := bor_low (a := 14) 4 (by omega) hy h
theorem bor_240 {y : Int} (hy : 0 ≤ y) (h : y < 8) : Builtin.bitOr 240 y = 240 + y := bor_low (a := 30) 3 (by omega) hy h

theorem beqd (a b : Int) : (a == b) = decide (a = b) := by rw [Bool.eq_iff_iff]; simp
/-! leads -/
noncomputable def leadS (o : Int) : Int × Int × Int × Int :=
  if o ≤ 127 then (0, o, 128, 191)
  else if 194 ≤ o ∧ o ≤ 223 then (1, o - 192, 128, 191)
  else if o = 224 then (2, 0, 160, 191)
  else if o = 237 then (2, 13, 128, 159)
  else if 225 ≤ o ∧ o ≤ 239 then (2, o - 224, 128, 191)
  else if o = 240 then (3, 0, 144, 191)
  else if o = 244 then (3, 4, 128, 143)
  else if 241 ≤ o ∧ o ≤ 243 then (3, o - 240, 128, 191)
  else (0, 65533, 128, 191)

noncomputable def leadD (q : Int × Int × Int × Int) : D := .tup [.int q.1, .int q.2.1, .int q.2.2.1, .int q.2.2.2]
theorem ite_ret {F : FTab} {wf : Nat} {σ : List Slot} {t e : X} {r : List XS} {c : Prop} [Decidable c] {u v : Int × Int × Int × Int} (ht : evE F σ none t = some (.bool (decide c))) (he : c → evE F σ none e = some (leadD u)) (hr : ¬ c → exS F wf σ r = some (.ret (leadD v))) :
    exS F wf σ (.ite t [.ret e] [] :: r) = some (.ret (leadD (if c then u else v))) := by
  by_cases h : c
  · rw [decide_eq_true h] at ht
    rw [if_pos h]
    exact exS_ret ((s_ite_t ht).trans (exS_one.trans (s_ret (he h))))
  · rw [decide_eq_false h] at ht
    rw [if_neg h]
    exact (exS_next ((s_ite_f ht).trans exS_nil)).trans (hr h)
theorem e_in {F : FTab} {σ : List Slot} {a b c : X} {i j k : Int} (ha : evE F σ none a = some (.int i)) (hb : evE F σ none b = some (.int j)) (hc : evE F σ none c = some (.int k)) :
    evE F σ none (.land [.cmp a [.ge] [b], .cmp a [.le] [c]]) = some (.bool (decide (j ≤ i ∧ i ≤ k))) := by
  rw [e_and2 (e_ge ha hb) fun _ => e_le ha hc, Bool.decide_and]
theorem e_four {F : FTab} {σ : List Slot} {a b c d : X} {i j k l : Int} (ha : evE F σ none a = some (.int i)) (hb : evE F σ none b = some (.int j)) (hc : evE F σ none c = some (.int k)) (hd : evE F σ none d = some (.int l)) :
    evE F σ none (.tup [a, b, c, d]) = some (leadD (i, j, k, l)) := e_tup (e_args ha (e_args hb (e_args hc (e_args hd e_args0))))
theorem low5 {o : Int} (h : 194 ≤ o ∧ o ≤ 223) : o % 32 = o - 192 := by omega
theorem low4 {o : Int} (h : 225 ≤ o ∧ o ≤ 239) : o % 16 = o - 224 := by omega
theorem low3 {o : Int} (h : 241 ≤ o ∧ o ≤ 243) : o % 8 = o - 240 := by omega
theorem e_low {F : FTab} {σ : List Slot} {a : X} {x y m : Int} (ha : evE F σ none a = some (.int x)) (h : Builtin.bitAnd x m = y) : evE F σ none (.bin .band a (.int m)) = some (.int y) := h ▸ e_bin ha (e_int m) rfl

theorem F_lead {wf i : Nat} (hi : 2 < i) (o : Int) (h0 : 0 ≤ o) : Fn wf i 2 [.int o] = some (.tup [.int (leadS o).1, .int (leadS o).2.1, .int (leadS o).2.2.1, .int (leadS o).2.2.2]) := by
  refine F_ret hi rfl ?_
  show exS _ _ [.val (.int o)] P_lead_of = some (.ret (leadD (leadS o)))
  have v : ∀ F, evE F [.val (.int o)] none (.var 0) = some (.int o) := fun F => e_var rfl
  unfold leadS
  refine ite_ret (e_le (v _) (e_int _)) (fun _ => e_four (e_int _) (v _) (e_int _) (e_int _)) fun _ => ?_
  refine ite_ret (e_in (v _) (e_int _) (e_int _)) (fun h => e_four (e_int _) (e_low (v _) ((band31 h0).trans (low5 h))) (e_int _) (e_int _)) fun _ => ?_
  refine ite_ret (e_eqi (v _) (e_int _)) (fun _ => e_four (e_int _) (e_int _) (e_int _) (e_int _)) fun _ => ?_
  refine ite_ret (e_eqi (v _) (e_int _)) (fun _ => e_four (e_int _) (e_int _) (e_int _) (e_int _)) fun _ => ?_
  refine ite_ret (e_in (v _) (e_int _) (e_int _)) (fun h => e_four (e_int _) (e_low (v _) ((band15 h0).trans (low4 h))) (e_int _) (e_int _)) fun _ => ?_
  refine ite_ret (e_eqi (v _) (e_int _)) (fun _ => e_four (e_int _) (e_int _) (e_int _) (e_int _)) fun _ => ?_
  refine ite_ret (e_eqi (v _) (e_int _)) (fun _ => e_four (e_int _) (e_int _) (e_int _) (e_int _)) fun _ => ?_
  refine ite_ret (e_in (v _) (e_int _) (e_int _)) (fun h => e_four (e_int _) (e_low (v _) ((band7 h0).trans (low3 h))) (e_int _) (e_int _)) fun _ => ?_
  exact exS_ret (s_ret (e_four (e_int _) (e_int _) (e_int _) (e_int _)))
end Mine

namespace Mine
open PySem PySem.W PySem.Calls PyProof.Rows PySem.SeqAt

/-- the machine of decode_utf8 -/
noncomputable def m8 : Int → Int → Int → Int → List Int → List Nat
  | n, _, _, _, [] => if 0 < n then [65533] else []
  | n, c, lo, hi, x :: r => if 0 < n ∧ lo ≤ x ∧ x ≤ hi then (if n = 1 then [(c * 64 + x % 64).toNat] else []) ++ m8 (n - 1) (c * 64 + x % 64) 128 191 r
    else (if 0 < n then [65533] else []) ++ ((if (leadS x).1 = 0 then [(leadS x).2.1.toNat] else []) ++ m8 (leadS x).1 (leadS x).2.1 (leadS x).2.2.1 (leadS x).2.2.2 r)

structure Ok8 (n c lo hi : Int) : Prop where
  n0 : 0 ≤ n
  n3 : n ≤ 3
  c0 : 0 ≤ c
  lo0 : 128 ≤ lo
  hi0 : hi ≤ 191
  c1 : n = 1 → c ≤ 17407
  c2 : n = 2 → c ≤ 271
  c3 : n = 3 → c ≤ 3 ∨ (c = 4 ∧ hi ≤ 143)

theorem ok_lead {x : Int} (h0 : 0 ≤ x) : Ok8 (leadS x).1 (leadS x).2.1 (leadS x).2.2.1 (leadS x).2.2.2 ∧ ((leadS x).1 = 0 → (leadS x).2.1 ≤ 65533) := by
  unfold leadS
  by_cases c1 : x ≤ 127
  · rw [if_pos c1]; exact ⟨⟨by simp, by simp, h0, by simp, by simp, by simp, by simp, by simp⟩, by simp; omega⟩
  rw [if_neg c1]
  by_cases c2 : 194 ≤ x ∧ x ≤ 223
  · rw [if_pos c2]; exact ⟨⟨by simp, by simp, by simp; omega, by simp, by simp, by simp; omega, by simp, by simp⟩, by simp⟩
  rw [if_neg c2]
  by_cases c3 : x = 224
  · rw [if_pos c3]; exact ⟨⟨by simp, by simp, by simp, by simp, by simp, by simp, by simp, by simp⟩, by simp⟩
  rw [if_neg c3]
  by_cases c4 : x = 237
  · rw [if_pos c4]; exact ⟨⟨by simp, by simp, by simp, by simp, by simp, by simp, by simp, by simp⟩, by simp⟩
  rw [if_neg c4]
  by_cases c5 : 225 ≤ x ∧ x ≤ 239
  · rw [if_pos c5]; exact ⟨⟨by simp, by simp, by simp; omega, by simp, by simp, by simp, by simp; omega, by simp⟩, by simp⟩
  rw [if_neg c5]
  by_cases c6 : x = 240
  · rw [if_pos c6]; exact ⟨⟨by simp, by simp, by simp, by simp, by simp, by simp, by simp, by simp⟩, by simp⟩
  rw [if_neg c6]
  by_cases c7 : x = 244
  · rw [if_pos c7]; exact ⟨⟨by simp, by simp, by simp, by simp, by simp, by simp, by simp, by simp⟩, by simp⟩
  rw [if_neg c7]
  by_cases c8 : 241 ≤ x ∧ x ≤ 243
  · rw [if_pos c8]; exact ⟨⟨by simp, by simp, by simp; omega, by simp, by simp, by simp, by simp, by simp; omega⟩, by simp⟩
  rw [if_neg c8]
  exact ⟨⟨by simp, by simp, by simp, by simp, by simp, by simp, by simp, by simp⟩, by simp⟩

theorem ok_next {n c lo hi x : Int} (h : Ok8 n c lo hi) (hn : 0 < n) (h1 : lo ≤ x) (h2 : x ≤ hi) : Ok8 (n - 1) (c * 64 + x % 64) 128 191 ∧ (n = 1 → c * 64 + x % 64 ≤ 1114111) := by
  obtain ⟨a1, a2, a3, a4, a5, a6, a7, a8⟩ := h
  refine ⟨⟨by omega, by omega, by omega, by omega, by omega, ?_, ?_, by omega⟩, ?_⟩
  · intro e; have := a7 (by omega); omega
  · intro e; have := a8 (by omega); omega
  · intro e; have := a6 e; omega

noncomputable def cps (l : List Nat) : List D := l.map fun c => .str [c]
theorem cps_app (a b : List Nat) : cps (a ++ b) = cps a ++ cps b := by simp [cps]
theorem cps_one (a : Nat) : cps [a] = [.str [a]] := rfl
theorem cps_two (a b : Nat) : cps [a, b] = [.str [a], .str [b]] := rfl
theorem cps_nil : cps [] = [] := rfl
theorem strs_cps (l : List Nat) : strsOf (cps l) = some (l.map fun c => [c]) := by
  induction l with
  | nil => rfl
  | cons a l ih => simp only [cps, List.map_cons, strsOf] at ih ⊢; rw [ih]; rfl
theorem flat_cps (l : List Nat) : (l.map fun c => [c]).flatten = l := by
  induction l with
  | nil => rfl
  | cons a l ih => simp [ih]
theorem join_cps (l : List Nat) (h : l.length ≤ big) : evJoin (.lst (cps l)) = some (.str l) := by
  have e : (cps l).length = l.length := by simp [cps]
  simp only [evJoin]
  rw [if_pos (by rw [e]; exact h), strs_cps]
  simp only [flat_cps, h, if_true]

noncomputable def σ8 (o : D) (out : List Nat) (n c lo hi : Int) (z : Slot) : List Slot := [.val o, .own (cps out), .val (.int n), .val (.int c), .val (.int lo), .val (.int hi), z]

noncomputable def B8 : List XS := [
    .ite (.land [.cmp (.var 2) [.gt] [.int 0], .cmp (.var 6) [.ge] [.var 4], .cmp (.var 6) [.le] [.var 5]]) [
      .assign 3 (.bin .bor (.bin .shl (.var 3) (.int 6)) (.bin .band (.var 6) (.int 63))),
      .unpack [4, 5] (.tup [.int 128, .int 191]),
      .aug 2 (.int 1)] [
      .ite (.cmp (.var 2) [.gt] [.int 0]) [
        .append 1 (.str [65533])] [
],
      .unpack [2, 3, 4, 5] (.call 2 [.var 6])],
    .ite (.cmp (.var 2) [.eq] [.int 0]) [
      .append 1 (.prim .chr [.var 3])] [
]]
noncomputable def T8 : List XS := [.ite (.cmp (.var 2) [.gt] [.int 0]) [
    .append 1 (.str [65533])] [
],
  .freeze 1,
  .ret (.join (.var 1))]
theorem P8_eq : P_decode_utf8 = .newl 1 :: .unpack [2, 3, 4, 5] (.tup [.int 0, .int 0, .int 128, .int 191]) :: .for_ (.one 6) (.var 0) B8 :: T8 := rfl

section
variable {F : FTab} {wf : Nat} {o : D} {out : List Nat} {n c lo hi : Int} {z : Slot}
theorem cps_len (l : List Nat) : (cps l).length = l.length := List.length_map _
theorem app8 {v : Nat} (hb : out.length + 1 ≤ big) : evAppend (σ8 o out n c lo hi z) 1 [.str [v]] = some (σ8 o (out ++ [v]) n c lo hi z) := by
  show (if (cps out).length + 1 ≤ big then _ else _) = _
  rw [if_pos (by rw [cps_len]; exact hb)]
  show some [.val o, .own (cps out ++ cps [v]), .val (.int n), .val (.int c), .val (.int lo), .val (.int hi), z] = _
  rw [← cps_app]
  rfl
/-- if p: put v behind -/
theorem put8 {t e : X} {p : Prop} [Decidable p] {v : Nat} (ht : evE F (σ8 o out n c lo hi z) none t = some (.bool (decide p))) (he : p → evE F (σ8 o out n c lo hi z) none e = some (.str [v])) (hb : out.length + 1 ≤ big) :
    exX F wf (σ8 o out n c lo hi z) (.ite t [.append 1 e] []) = some (.next (σ8 o (out ++ if p then [v] else []) n c lo hi z)) := by
  by_cases h : p
  · rw [decide_eq_true h] at ht
    rw [if_pos h]
    exact (s_ite_t ht).trans (exS_one.trans (s_append (he h) (app8 hb)))
  · rw [decide_eq_false h] at ht
    rw [if_neg h, List.append_nil]
    exact (s_ite_f ht).trans exS_nil
theorem chr8 (h : n = 0 → 0 ≤ c ∧ c ≤ 1114111) (hb : out.length + 1 ≤ big) :
    exX F wf (σ8 o out n c lo hi z) (.ite (.cmp (.var 2) [.eq] [.int 0]) [.append 1 (.prim .chr [.var 3])] []) = some (.next (σ8 o (out ++ if n = 0 then [c.toNat] else []) n c lo hi z)) :=
  put8 (e_eqi (e_var rfl) (e_int 0)) (fun q => e_prim (e_args (e_var rfl) e_args0) (p_chr (h q).1 (h q).2)) hb
theorem c30 (h : Ok8 n c lo hi) (hn : 0 < n) : c < 1073741824 := by
  obtain ⟨a1, a2, a3, a4, a5, a6, a7, a8⟩ := h
  rcases (by omega : n = 1 ∨ n = 2 ∨ n = 3) with e | e | e
  · have := a6 e; omega
  · have := a7 e; omega
  · have := a8 e; omega
theorem s_aug {i : Nat} {e : X} {σ : List Slot} {a b : Int} (h : evE F σ none (.var i) = some (.int a)) (h2 : evE F σ none e = some (.int b)) : exX F wf σ (.aug i e) = some (.next (σ.set i (.val (.int (a - b))))) := by rw [exX, h, h2]
theorem set_many {l : List Nat} {ds : List D} {σ σ' : List Slot} (h : ds.length ≤ big) (hs : setMany l ds σ = some σ') : setT (.many l) (.tup ds) σ = some σ' := (if_pos h).trans hs
theorem bor_int {a b c : Int} (h : Builtin.bitOr a b = c) : evBin .bor (.int a) (.int b) = some (.int c) := congrArg (fun v => some (D.int v)) h
theorem four_big : (4 : Nat) ≤ big := by decide
theorem one_zero : n - 1 = 0 ↔ n = 1 := by omega
theorem mod_64 (x : Int) : 0 ≤ x % 64 ∧ x % 64 < 64 := ⟨Int.emod_nonneg _ (by decide), Int.emod_lt_of_pos _ (by decide)⟩
end

theorem step8 {wf : Nat} {o : D} {out : List Nat} {n c lo hi x : Int} (h : Ok8 n c lo hi) (hx : 0 ≤ x) (hb : out.length + 2 ≤ big) :
    exS (Fn wf 3) wf (σ8 o out n c lo hi (.val (.int x))) B8 = some (.next (
      if 0 < n ∧ lo ≤ x ∧ x ≤ hi then σ8 o (out ++ if n = 1 then [(c * 64 + x % 64).toNat] else []) (n - 1) (c * 64 + x % 64) 128 191 (.val (.int x))
      else σ8 o (out ++ ((if 0 < n then [65533] else []) ++ (if (leadS x).1 = 0 then [(leadS x).2.1.toNat] else []))) (leadS x).1 (leadS x).2.1 (leadS x).2.2.1 (leadS x).2.2.2 (.val (.int x)))) := by
  have test : evE (Fn wf 3) (σ8 o out n c lo hi (.val (.int x))) none (.land [.cmp (.var 2) [.gt] [.int 0], .cmp (.var 6) [.ge] [.var 4], .cmp (.var 6) [.le] [.var 5]]) = some (.bool (decide (0 < n ∧ lo ≤ x ∧ x ≤ hi))) := by
    rw [e_and3 (e_gt (e_var rfl) (e_int 0)) (fun _ => e_ge (e_var rfl) (e_var rfl)) fun _ _ => e_le (e_var rfl) (e_var rfl), Bool.decide_and, Bool.decide_and]
  have hb1 : out.length + 1 ≤ big := Nat.le_trans (Nat.le_succ _) hb
  by_cases q : 0 < n ∧ lo ≤ x ∧ x ≤ hi
  · rw [decide_eq_true q] at test
    have ok := ok_next h q.1 q.2.1 q.2.2
    rw [if_pos q]
    have e : (if n = 1 then [(c * 64 + x % 64).toNat] else []) = if n - 1 = 0 then [(c * 64 + x % 64).toNat] else [] := by
      by_cases h1 : n = 1
      · rw [if_pos h1, if_pos (one_zero.mpr h1)]
      · rw [if_neg h1, if_neg fun z => h1 (one_zero.mp z)]
    rw [e]
    refine (exS_next ((s_ite_t test).trans ?_)).trans (exS_one.trans (chr8 (lo := 128) (hi := 191) (fun z => ⟨ok.1.c0, ok.2 (one_zero.mp z)⟩) hb1))
    have hbor : Builtin.bitOr (c * 64) (x % 64) = c * 64 + x % 64 := bor64 h.c0 (mod_64 x).1 (mod_64 x).2
    have hsh : evBin .shl (.int c) (.int 6) = some (.int (c * 64)) := if_pos ⟨by decide, by decide, h.c0, c30 h q.1⟩
    refine (exS_next (s_assign (e_bin (x := .int (c * 64)) (y := .int (x % 64)) (d := .int (c * 64 + x % 64)) (e_bin (e_var rfl) (e_int 6) hsh) (e_low (e_var rfl) (band63 hx)) (bor_int hbor)))).trans ?_
    refine (exS_next (s_unpack (e_tup (e_args (e_int 128) (e_args (e_int 191) e_args0))) (set_many (by decide) rfl))).trans ?_
    exact exS_one.trans (s_aug (e_var rfl) (e_int 1))
  · rw [decide_eq_false q] at test
    have ok := ok_lead hx
    rw [if_neg q, ← List.append_assoc]
    have hb2 : (out ++ if 0 < n then [65533] else []).length + 1 ≤ big := by
      rw [List.length_append]
      by_cases hn : 0 < n
      · rw [if_pos hn]; exact hb
      · rw [if_neg hn]; exact hb1
    refine (exS_next ((s_ite_f test).trans ?_)).trans (exS_one.trans (chr8 (fun z => ⟨ok.1.c0, Int.le_trans (ok.2 z) (by decide)⟩) hb2))
    refine (exS_next (put8 (e_gt (e_var rfl) (e_int 0)) (fun _ => e_str _) hb1)).trans ?_
    exact exS_one.trans (s_unpack (e_call (e_args (e_var rfl) e_args0) (F_lead (wf := wf) (i := 3) (by decide) x hx)) (set_many (l := [2, 3, 4, 5]) four_big rfl))

theorem tail8 {wf : Nat} {o : D} {out : List Nat} {n c lo hi : Int} {z : Slot} (hb : out.length + 2 ≤ big) : exS (Fn wf 3) wf (σ8 o out n c lo hi z) T8 = some (.ret (.str (out ++ if 0 < n then [65533] else []))) := by
  have hlen : (cps out).length + 1 ≤ big := by simp [cps]; omega
  by_cases hn : 0 < n
  · have hj := join_cps (out ++ [65533]) (by simp; omega)
    rw [cps_app, cps_one] at hj
    simp [T8, σ8, exS, exX, evE, evEs, chain, evCmp, evAppend, hn, hlen, hj]
  · have hj := join_cps out (by omega)
    simp [T8, σ8, exS, exX, evE, evEs, chain, evCmp, evAppend, hn, hlen, hj]

theorem loop8 {wf : Nat} {o : D} : ∀ (l : List Int) (out : List Nat) (n c lo hi : Int) (z : Slot), Ok8 n c lo hi → (∀ x ∈ l, 0 ≤ x) → out.length + 2 * l.length + 2 ≤ big →
    (match forL (fun d σ => match setT (.one 6) d σ with
      | some σ' => exS (Fn wf 3) wf σ' B8
      | none => none) (l.map .int) (σ8 o out n c lo hi z) with
    | some (.next σ') => exS (Fn wf 3) wf σ' T8
    | some (.cont σ') => some (.cont σ')
    | some (.ret d) => some (.ret d)
    | none => none) = some (.ret (.str (out ++ m8 n c lo hi l)))
  | [], out, n, c, lo, hi, z, h, _, hb => by
    simp only [List.map_nil, forL]
    rw [tail8 (by simp at hb; omega)]
    rfl
  | x :: l, out, n, c, lo, hi, z, h, hx, hb => by
    have hx0 := hx x List.mem_cons_self
    have hxr : ∀ y ∈ l, 0 ≤ y := fun y hy => hx y (List.mem_cons_of_mem _ hy)
    simp only [List.length_cons] at hb
    simp only [List.map_cons, forL]
    rw [show setT (.one 6) (.int x) (σ8 o out n c lo hi z) = some (σ8 o out n c lo hi (.val (.int x))) from rfl]
    simp only
    rw [step8 h hx0 (by omega)]
    by_cases hc : 0 < n ∧ lo ≤ x ∧ x ≤ hi
    · rw [if_pos hc]
      simp only
      rw [loop8 l _ _ _ _ _ _ (ok_next h hc.1 hc.2.1 hc.2.2).1 hxr (by simp only [List.length_append]; split <;> (simp only [List.length_cons, List.length_nil]; omega))]
      rw [m8, if_pos hc, List.append_assoc]
    · rw [if_neg hc]
      simp only
      rw [loop8 l _ _ _ _ _ _ (ok_lead hx0).1 hxr (by simp only [List.length_append]; split <;> split <;> (simp only [List.length_cons, List.length_nil]; omega))]
      rw [m8, if_neg hc]
      simp only [List.append_assoc]

theorem exS_for {F : FTab} {wf : Nat} {σ : List Slot} {t : T} {src : X} {b r : List XS} {d : D} {l : List D} (h1 : evE F σ none src = some d) (h2 : itemsFor t d = some l) :
    exS F wf σ (.for_ t src b :: r) = (match forL (fun d σ => match setT t d σ with
      | some σ' => exS F wf σ' b
      | none => none) l σ with
    | some (.next σ') => exS F wf σ' r
    | some (.cont σ') => some (.cont σ')
    | some (.ret d) => some (.ret d)
    | none => none) := by
  rw [exS]
  simp only [exX, h1, h2]
  all_goals
    generalize forL _ _ _ = r
    cases r with
    | none => rfl
    | some o => cases o <;> rfl

theorem F_utf8 {wf i : Nat} (hi : 3 < i) (l : List Int) (hx : ∀ x ∈ l, 0 ≤ x) (hb : l.length ≤ 1000) : Fn wf i 3 [.bytes l] = some (.str (m8 0 0 128 191 l)) := by
  refine F_ret hi rfl ?_
  show exS _ _ [.val (.bytes l), .no, .no, .no, .no, .no, .no] P_decode_utf8 = _
  have b4 : (4 : Nat) ≤ big := by decide
  rw [P8_eq, exS_next (σ' := [.val (.bytes l), .own [], .no, .no, .no, .no, .no]) (by simp [exX])]
  rw [exS_next (σ' := σ8 (.bytes l) [] 0 0 128 191 .no) (by simp [exX, evE, evEs, seqO, setT, setMany, b4, σ8, cps])]
  have hlb : l.length ≤ big := by unfold big; omega
  rw [exS_for (d := .bytes l) (l := l.map .int) (by simp [evE, σ8]) (by simp [itemsFor, itemsOf, hlb])]
  rw [loop8 l [] 0 0 128 191 .no ⟨by simp, by simp, by simp, by simp, by simp, by simp, by simp, by simp⟩ hx (by unfold big; simp; omega)]
  simp
end Mine

namespace Mine
open PySem PySem.W PySem.Calls PyProof.Rows PySem.SeqAt

noncomputable def scan : List (Int × Int) → List Int → Int → Int × Nat
  | [], _, c => (c, 0)
  | _ :: _, [], c => (c, 0)
  | (a, b) :: ls, x :: xs, c => if a ≤ x ∧ x < b then ((scan ls xs (c * (b - a) + x - a)).1, (scan ls xs (c * (b - a) + x - a)).2 + 1) else (c, 0)

noncomputable def rows9 : List (Int × List (Int × Int)) := [(0, [(0, 128)]), (128, [(194, 224), (128, 192)]), (2048, [(224, 225), (160, 192), (128, 192)]), (4096, [(225, 237), (128, 192), (128, 192)]),
  (53248, [(237, 238), (128, 160), (128, 192)]), (57344, [(238, 240), (128, 192), (128, 192)]), (65536, [(240, 241), (144, 192), (128, 192), (128, 192)]),
  (262144, [(241, 244), (128, 192), (128, 192), (128, 192)]), (1048576, [(244, 245), (128, 144), (128, 192), (128, 192)])]

noncomputable def rowSt (o : List Int) (st : Nat × Int) (row : Int × List (Int × Int)) : Nat × Int :=
  (if (scan row.2 o 0).2 > st.1 then (scan row.2 o 0).2 else st.1, if (scan row.2 o 0).2 = row.2.length then row.1 + (scan row.2 o 0).1 else st.2)
noncomputable def reads (o : List Int) : Nat × Int := rows9.foldl (rowSt o) (1, 65533)

theorem m8_zero (c lo hi : Int) : ∀ r : List Int, m8 0 c lo hi r = m8 0 0 128 191 r
  | [] => by simp [m8]
  | x :: r => by simp [m8]
theorem m8_lead {x : Int} {r : List Int} : m8 0 0 128 191 (x :: r) = (if (leadS x).1 = 0 then [(leadS x).2.1.toNat] else []) ++ m8 (leadS x).1 (leadS x).2.1 (leadS x).2.2.1 (leadS x).2.2.2 r := by
  rw [m8, if_neg (fun q => absurd q.1 (by simp))]
  simp
theorem m8_fail {n c lo hi y : Int} {r : List Int} (hn : 0 < n) (h : ¬ (lo ≤ y ∧ y ≤ hi)) : m8 n c lo hi (y :: r) = 65533 :: m8 0 0 128 191 (y :: r) := by
  rw [m8_lead, m8, if_neg (fun q => h q.2), if_pos hn]
  rfl
theorem m8_ok {n c lo hi y : Int} {r : List Int} (hn : 0 < n) (h : lo ≤ y ∧ y ≤ hi) : m8 n c lo hi (y :: r) = (if n = 1 then [(c * 64 + y % 64).toNat] else []) ++ m8 (n - 1) (c * 64 + y % 64) 128 191 r := by
  rw [m8, if_pos ⟨hn, h⟩]
theorem m8_nil {n c lo hi : Int} (hn : 0 < n) : m8 n c lo hi [] = [65533] := by rw [m8, if_pos hn]

theorem scan_no {a b x c : Int} {ls : List (Int × Int)} {xs : List Int} (h : ¬ (a ≤ x ∧ x < b)) : scan ((a, b) :: ls) (x :: xs) c = (c, 0) := by rw [scan, if_neg h]
theorem scan_yes {a b x c : Int} {ls : List (Int × Int)} {xs : List Int} (h : a ≤ x ∧ x < b) : scan ((a, b) :: ls) (x :: xs) c = ((scan ls xs (c * (b - a) + x - a)).1, (scan ls xs (c * (b - a) + x - a)).2 + 1) := by rw [scan, if_pos h]

/-- what is left of a sign whose tail has k octets -/
structure Tail (n code lo hi : Int) (ls : List (Int × Int)) (c least : Int) (r : List Int) : Prop where
  eq : m8 n code lo hi r = (if (scan ls r c).2 = ls.length then [(least + (scan ls r c).1).toNat] else [65533]) ++ m8 0 0 128 191 (r.drop (scan ls r c).2)
  le : (scan ls r c).2 ≤ r.length

theorem tail1 {code lo hi c least : Int} (hlo : 128 ≤ lo) (hhi : hi ≤ 191) (e : code * 64 - c * (hi + 1 - lo) + lo - 128 = least) (r : List Int) : Tail 1 code lo hi [(lo, hi + 1)] c least r := by
  cases r with
  | nil => exact ⟨by simp [m8_nil, scan, m8], by simp [scan]⟩
  | cons x r =>
    by_cases h : lo ≤ x ∧ x ≤ hi
    · rw [show hi + 1 = hi + 1 from rfl]
      have h' : lo ≤ x ∧ x < hi + 1 := ⟨h.1, by omega⟩
      constructor
      · rw [m8_ok (by simp) h, scan_yes h']
        simp only [scan, List.length_cons, List.length_nil, if_true, List.drop_succ_cons, List.drop_zero]
        have hm : x % 64 = x - 128 := by omega
        rw [hm, show code * 64 + (x - 128) = least + (c * (hi + 1 - lo) + x - lo) by omega, show (1 : Int) - 1 = 0 from rfl, m8_zero]
      · rw [scan_yes h']; simp [scan]
    · have h' : ¬ (lo ≤ x ∧ x < hi + 1) := fun q => h ⟨q.1, by omega⟩
      exact ⟨by rw [m8_fail (by simp) h, scan_no h']; simp, by rw [scan_no h']; simp⟩

theorem tailS {n code lo hi c least : Int} {ls : List (Int × Int)} (hn : 1 < n) (hlo : 128 ≤ lo) (hhi : hi ≤ 191)
    (ih : ∀ x r, lo ≤ x → x ≤ hi → Tail (n - 1) (code * 64 + (x - 128)) 128 191 ls (c * (hi + 1 - lo) + x - lo) least r) (r : List Int) : Tail n code lo hi ((lo, hi + 1) :: ls) c least r := by
  cases r with
  | nil => exact ⟨by rw [m8_nil (by omega)]; simp [scan, m8], by simp [scan]⟩
  | cons x r =>
    by_cases h : lo ≤ x ∧ x ≤ hi
    · have h' : lo ≤ x ∧ x < hi + 1 := ⟨h.1, by omega⟩
      have i := ih x r h.1 h.2
      have hm : x % 64 = x - 128 := by omega
      constructor
      · rw [m8_ok (by omega) h, scan_yes h', if_neg (by omega), List.nil_append, hm, i.eq]
        simp only [List.length_cons, List.drop_succ_cons, Nat.add_right_cancel_iff]
      · rw [scan_yes h']; simp [i.le]
    · have h' : ¬ (lo ≤ x ∧ x < hi + 1) := fun q => h ⟨q.1, by omega⟩
      exact ⟨by rw [m8_fail (by omega) h, scan_no h']; simp, by rw [scan_no h']; simp⟩

theorem reads_one {x : Int} {r : List Int} {c : Int} {ls : List (Int × Int)} {least : Int} {n code lo hi : Int}
    (hl : leadS x = (n, code, lo, hi)) (hn : 0 < n) (T : Tail n code lo hi ls c least r)
    (hr : reads (x :: r) = ((if (scan ls r c).2 + 1 > 1 then (scan ls r c).2 + 1 else 1), if (scan ls r c).2 + 1 = ls.length + 1 then least + (scan ls r c).1 else 65533)) :
    1 ≤ (reads (x :: r)).1 ∧ (reads (x :: r)).1 ≤ r.length + 1 ∧ m8 0 0 128 191 (x :: r) = [(reads (x :: r)).2.toNat] ++ m8 0 0 128 191 ((x :: r).drop (reads (x :: r)).1) := by
  have e1 : (if (scan ls r c).2 + 1 > 1 then (scan ls r c).2 + 1 else 1) = (scan ls r c).2 + 1 := by split <;> omega
  have hle := T.le
  have heq := T.eq
  rw [hr, e1, m8_lead, hl]
  refine ⟨by simp, by simp; exact hle, ?_⟩
  simp only [List.drop_succ_cons]
  rw [if_neg (by omega), List.nil_append, heq]
  congr 1
  by_cases q : (scan ls r c).2 = ls.length
  · rw [if_pos q, if_pos (by omega)]
  · rw [if_neg q, if_neg (by omega)]; rfl

theorem rowSt_no {x a b least : Int} {r : List Int} {ls : List (Int × Int)} {st : Nat × Int} (h : ¬ (a ≤ x ∧ x < b)) : rowSt (x :: r) st (least, (a, b) :: ls) = st := by
  unfold rowSt
  simp only
  rw [scan_no h]
  simp
theorem rowSt_yes {x a b least : Int} {r : List Int} {ls : List (Int × Int)} {st : Nat × Int} (h : a ≤ x ∧ x < b) : rowSt (x :: r) st (least, (a, b) :: ls) =
    (if (scan ls r (x - a)).2 + 1 > st.1 then (scan ls r (x - a)).2 + 1 else st.1, if (scan ls r (x - a)).2 + 1 = ls.length + 1 then least + (scan ls r (x - a)).1 else st.2) := by
  unfold rowSt
  simp only
  rw [scan_yes h, show 0 * (b - a) + x - a = x - a by omega]
  rfl

theorem no_le {L b x : Int} (h : L ≤ x) (d : decide (L ≤ b) = false) : ¬ x ≤ b := fun z => of_decide_eq_false d (Int.le_trans h z)
theorem no_inL {L a b x : Int} (h : L ≤ x) (d : decide (L ≤ b) = false) : ¬ (a ≤ x ∧ x ≤ b) := fun z => no_le h d z.2
theorem no_inU {U a b x : Int} (h : x ≤ U) (d : decide (a ≤ U) = false) : ¬ (a ≤ x ∧ x ≤ b) := fun z => of_decide_eq_false d (Int.le_trans z.1 h)
theorem no_eqL {L c x : Int} (h : L ≤ x) (d : decide (L ≤ c) = false) : ¬ x = c := fun z => no_le h d (Int.le_of_eq z)
theorem no_eqU {U c x : Int} (h : x ≤ U) (d : decide (c ≤ U) = false) : ¬ x = c := fun z => of_decide_eq_false d (Int.le_trans (Int.le_of_eq z.symm) h)
theorem yes_in {L U a b x : Int} (h : L ≤ x) (h' : x ≤ U) (d : decide (a ≤ L) = true) (d' : decide (U ≤ b) = true) : a ≤ x ∧ x ≤ b := ⟨Int.le_trans (of_decide_eq_true d) h, Int.le_trans h' (of_decide_eq_true d')⟩
theorem row_hi {L x a b least : Int} {r : List Int} {ls : List (Int × Int)} {st : Nat × Int} (h : L ≤ x) (d : decide (b ≤ L) = true) : rowSt (x :: r) st (least, (a, b) :: ls) = st :=
  rowSt_no fun z => absurd (Int.lt_of_lt_of_le z.2 (Int.le_trans (of_decide_eq_true d) h)) (Int.lt_irrefl x)
theorem row_lo {U x a b least : Int} {r : List Int} {ls : List (Int × Int)} {st : Nat × Int} (h : x ≤ U) (d : decide (U < a) = true) : rowSt (x :: r) st (least, (a, b) :: ls) = st :=
  rowSt_no fun z => absurd (Int.lt_of_le_of_lt (Int.le_trans z.1 h) (of_decide_eq_true d)) (Int.lt_irrefl a)
theorem row_in {L U x a b : Int} (h : L ≤ x) (h' : x ≤ U) (d : decide (a ≤ L) = true) (d' : decide (U < b) = true) : a ≤ x ∧ x < b := ⟨Int.le_trans (of_decide_eq_true d) h, Int.lt_of_le_of_lt h' (of_decide_eq_true d')⟩
/-- an octet that begins no row, or is a sign of its own -/
theorem reads_lone {x s : Int} {r : List Int} (hl : leadS x = (0, s, 128, 191)) (hr : reads (x :: r) = (1, s)) : 1 ≤ (reads (x :: r)).1 ∧ (reads (x :: r)).1 ≤ r.length + 1 ∧
    m8 0 0 128 191 (x :: r) = [(reads (x :: r)).2.toNat] ++ m8 0 0 128 191 ((x :: r).drop (reads (x :: r)).1) := by
  rw [hr, m8_lead, hl]
  exact ⟨Nat.le_refl _, Nat.succ_le_succ (Nat.zero_le _), congrArg ([s.toNat] ++ ·) (m8_zero _ _ _ _)⟩

theorem reads_ok (x : Int) (r : List Int) (h0 : 0 ≤ x) : 1 ≤ (reads (x :: r)).1 ∧ (reads (x :: r)).1 ≤ r.length + 1 ∧
    m8 0 0 128 191 (x :: r) = [(reads (x :: r)).2.toNat] ++ m8 0 0 128 191 ((x :: r).drop (reads (x :: r)).1) := by
  have t1 := fun (code c least : Int) (e : code * 64 - c * 64 = least) (r : List Int) => tail1 (lo := 128) (hi := 191) (code := code) (c := c) (least := least) (by decide) (by decide) (by omega) r
  have t2 := fun (code c least : Int) (e : code * 4096 - c * 4096 = least) (r : List Int) => tailS (n := 2) (lo := 128) (hi := 191) (code := code) (c := c) (least := least) (ls := [(128, 191 + 1)]) (by decide) (by decide) (by decide) (fun y r _ _ => t1 _ _ _ (by omega) r) r
  rcases Int.lt_or_le x 128 with u | L0
  · have L := h0
    have U : x ≤ 127 := Int.le_of_lt_add_one u
    have z1 : ∀ st, rowSt (x :: r) st (128, [(194, 224), (128, 192)]) = st := fun st => row_lo U rfl
    have z2 : ∀ st, rowSt (x :: r) st (2048, [(224, 225), (160, 192), (128, 192)]) = st := fun st => row_lo U rfl
    have z3 : ∀ st, rowSt (x :: r) st (4096, [(225, 237), (128, 192), (128, 192)]) = st := fun st => row_lo U rfl
    have z4 : ∀ st, rowSt (x :: r) st (53248, [(237, 238), (128, 160), (128, 192)]) = st := fun st => row_lo U rfl
    have z5 : ∀ st, rowSt (x :: r) st (57344, [(238, 240), (128, 192), (128, 192)]) = st := fun st => row_lo U rfl
    have z6 : ∀ st, rowSt (x :: r) st (65536, [(240, 241), (144, 192), (128, 192), (128, 192)]) = st := fun st => row_lo U rfl
    have z7 : ∀ st, rowSt (x :: r) st (262144, [(241, 244), (128, 192), (128, 192), (128, 192)]) = st := fun st => row_lo U rfl
    have z8 : ∀ st, rowSt (x :: r) st (1048576, [(244, 245), (128, 144), (128, 192), (128, 192)]) = st := fun st => row_lo U rfl
    have hl : leadS x = (0, x, 128, 191) := by
      unfold leadS
      rw [if_pos U]
    refine reads_lone hl ?_
    simp only [reads, rows9, List.foldl_cons, List.foldl_nil, z1, z2, z3, z4, z5, z6, z7, z8]
    rw [rowSt_yes (row_in L U rfl rfl)]
    simp [scan]
  rcases Int.lt_or_le x 194 with u | L1
  · have L := L0
    have U : x ≤ 193 := Int.le_of_lt_add_one u
    have z0 : ∀ st, rowSt (x :: r) st (0, [(0, 128)]) = st := fun st => row_hi L rfl
    have z1 : ∀ st, rowSt (x :: r) st (128, [(194, 224), (128, 192)]) = st := fun st => row_lo U rfl
    have z2 : ∀ st, rowSt (x :: r) st (2048, [(224, 225), (160, 192), (128, 192)]) = st := fun st => row_lo U rfl
    have z3 : ∀ st, rowSt (x :: r) st (4096, [(225, 237), (128, 192), (128, 192)]) = st := fun st => row_lo U rfl
    have z4 : ∀ st, rowSt (x :: r) st (53248, [(237, 238), (128, 160), (128, 192)]) = st := fun st => row_lo U rfl
    have z5 : ∀ st, rowSt (x :: r) st (57344, [(238, 240), (128, 192), (128, 192)]) = st := fun st => row_lo U rfl
    have z6 : ∀ st, rowSt (x :: r) st (65536, [(240, 241), (144, 192), (128, 192), (128, 192)]) = st := fun st => row_lo U rfl
    have z7 : ∀ st, rowSt (x :: r) st (262144, [(241, 244), (128, 192), (128, 192), (128, 192)]) = st := fun st => row_lo U rfl
    have z8 : ∀ st, rowSt (x :: r) st (1048576, [(244, 245), (128, 144), (128, 192), (128, 192)]) = st := fun st => row_lo U rfl
    have hl : leadS x = (0, 65533, 128, 191) := by
      unfold leadS
      rw [if_neg (no_le L rfl), if_neg (no_inU U rfl), if_neg (no_eqU U rfl), if_neg (no_eqU U rfl), if_neg (no_inU U rfl), if_neg (no_eqU U rfl), if_neg (no_eqU U rfl), if_neg (no_inU U rfl)]
    refine reads_lone hl ?_
    simp only [reads, rows9, List.foldl_cons, List.foldl_nil, z0, z1, z2, z3, z4, z5, z6, z7, z8]
  rcases Int.lt_or_le x 224 with u | L2
  · have L := L1
    have U : x ≤ 223 := Int.le_of_lt_add_one u
    have z0 : ∀ st, rowSt (x :: r) st (0, [(0, 128)]) = st := fun st => row_hi L rfl
    have z2 : ∀ st, rowSt (x :: r) st (2048, [(224, 225), (160, 192), (128, 192)]) = st := fun st => row_lo U rfl
    have z3 : ∀ st, rowSt (x :: r) st (4096, [(225, 237), (128, 192), (128, 192)]) = st := fun st => row_lo U rfl
    have z4 : ∀ st, rowSt (x :: r) st (53248, [(237, 238), (128, 160), (128, 192)]) = st := fun st => row_lo U rfl
    have z5 : ∀ st, rowSt (x :: r) st (57344, [(238, 240), (128, 192), (128, 192)]) = st := fun st => row_lo U rfl
    have z6 : ∀ st, rowSt (x :: r) st (65536, [(240, 241), (144, 192), (128, 192), (128, 192)]) = st := fun st => row_lo U rfl
    have z7 : ∀ st, rowSt (x :: r) st (262144, [(241, 244), (128, 192), (128, 192), (128, 192)]) = st := fun st => row_lo U rfl
    have z8 : ∀ st, rowSt (x :: r) st (1048576, [(244, 245), (128, 144), (128, 192), (128, 192)]) = st := fun st => row_lo U rfl
    have hl : leadS x = (1, x - 192, 128, 191) := by
      unfold leadS
      rw [if_neg (no_le L rfl), if_pos (yes_in L U rfl rfl)]
    refine reads_one hl (by decide) (t1 (x - 192) (x - 194) 128 (by omega) r) ?_
    simp only [reads, rows9, List.foldl_cons, List.foldl_nil, z0, z2, z3, z4, z5, z6, z7, z8]
    rw [rowSt_yes (row_in L U rfl rfl)]
    rfl
  rcases Int.lt_or_le x 225 with u | L3
  · have L := L2
    have U : x ≤ 224 := Int.le_of_lt_add_one u
    have z0 : ∀ st, rowSt (x :: r) st (0, [(0, 128)]) = st := fun st => row_hi L rfl
    have z1 : ∀ st, rowSt (x :: r) st (128, [(194, 224), (128, 192)]) = st := fun st => row_hi L rfl
    have z3 : ∀ st, rowSt (x :: r) st (4096, [(225, 237), (128, 192), (128, 192)]) = st := fun st => row_lo U rfl
    have z4 : ∀ st, rowSt (x :: r) st (53248, [(237, 238), (128, 160), (128, 192)]) = st := fun st => row_lo U rfl
    have z5 : ∀ st, rowSt (x :: r) st (57344, [(238, 240), (128, 192), (128, 192)]) = st := fun st => row_lo U rfl
    have z6 : ∀ st, rowSt (x :: r) st (65536, [(240, 241), (144, 192), (128, 192), (128, 192)]) = st := fun st => row_lo U rfl
    have z7 : ∀ st, rowSt (x :: r) st (262144, [(241, 244), (128, 192), (128, 192), (128, 192)]) = st := fun st => row_lo U rfl
    have z8 : ∀ st, rowSt (x :: r) st (1048576, [(244, 245), (128, 144), (128, 192), (128, 192)]) = st := fun st => row_lo U rfl
    have hl : leadS x = (2, 0, 160, 191) := by
      unfold leadS
      rw [if_neg (no_le L rfl), if_neg (no_inL L rfl), if_pos (Int.le_antisymm U L)]
    refine reads_one hl (by decide) (tailS (n := 2) (lo := 160) (hi := 191) (code := 0) (c := x - 224) (least := 2048) (ls := [(128, 192)]) (by decide) (by decide) (by decide) (fun y r _ _ => t1 _ _ _ (by omega) r) r) ?_
    simp only [reads, rows9, List.foldl_cons, List.foldl_nil, z0, z1, z3, z4, z5, z6, z7, z8]
    rw [rowSt_yes (row_in L U rfl rfl)]
    rfl
  rcases Int.lt_or_le x 237 with u | L4
  · have L := L3
    have U : x ≤ 236 := Int.le_of_lt_add_one u
    have z0 : ∀ st, rowSt (x :: r) st (0, [(0, 128)]) = st := fun st => row_hi L rfl
    have z1 : ∀ st, rowSt (x :: r) st (128, [(194, 224), (128, 192)]) = st := fun st => row_hi L rfl
    have z2 : ∀ st, rowSt (x :: r) st (2048, [(224, 225), (160, 192), (128, 192)]) = st := fun st => row_hi L rfl
    have z4 : ∀ st, rowSt (x :: r) st (53248, [(237, 238), (128, 160), (128, 192)]) = st := fun st => row_lo U rfl
    have z5 : ∀ st, rowSt (x :: r) st (57344, [(238, 240), (128, 192), (128, 192)]) = st := fun st => row_lo U rfl
    have z6 : ∀ st, rowSt (x :: r) st (65536, [(240, 241), (144, 192), (128, 192), (128, 192)]) = st := fun st => row_lo U rfl
    have z7 : ∀ st, rowSt (x :: r) st (262144, [(241, 244), (128, 192), (128, 192), (128, 192)]) = st := fun st => row_lo U rfl
    have z8 : ∀ st, rowSt (x :: r) st (1048576, [(244, 245), (128, 144), (128, 192), (128, 192)]) = st := fun st => row_lo U rfl
    have hl : leadS x = (2, x - 224, 128, 191) := by
      unfold leadS
      rw [if_neg (no_le L rfl), if_neg (no_inL L rfl), if_neg (no_eqL L rfl), if_neg (no_eqU U rfl), if_pos (yes_in L U rfl rfl)]
    refine reads_one hl (by decide) (tailS (n := 2) (lo := 128) (hi := 191) (code := x - 224) (c := x - 225) (least := 4096) (ls := [(128, 192)]) (by decide) (by decide) (by decide) (fun y r _ _ => t1 _ _ _ (by omega) r) r) ?_
    simp only [reads, rows9, List.foldl_cons, List.foldl_nil, z0, z1, z2, z4, z5, z6, z7, z8]
    rw [rowSt_yes (row_in L U rfl rfl)]
    rfl
  rcases Int.lt_or_le x 238 with u | L5
  · have L := L4
    have U : x ≤ 237 := Int.le_of_lt_add_one u
    have z0 : ∀ st, rowSt (x :: r) st (0, [(0, 128)]) = st := fun st => row_hi L rfl
    have z1 : ∀ st, rowSt (x :: r) st (128, [(194, 224), (128, 192)]) = st := fun st => row_hi L rfl
    have z2 : ∀ st, rowSt (x :: r) st (2048, [(224, 225), (160, 192), (128, 192)]) = st := fun st => row_hi L rfl
    have z3 : ∀ st, rowSt (x :: r) st (4096, [(225, 237), (128, 192), (128, 192)]) = st := fun st => row_hi L rfl
    have z5 : ∀ st, rowSt (x :: r) st (57344, [(238, 240), (128, 192), (128, 192)]) = st := fun st => row_lo U rfl
    have z6 : ∀ st, rowSt (x :: r) st (65536, [(240, 241), (144, 192), (128, 192), (128, 192)]) = st := fun st => row_lo U rfl
    have z7 : ∀ st, rowSt (x :: r) st (262144, [(241, 244), (128, 192), (128, 192), (128, 192)]) = st := fun st => row_lo U rfl
    have z8 : ∀ st, rowSt (x :: r) st (1048576, [(244, 245), (128, 144), (128, 192), (128, 192)]) = st := fun st => row_lo U rfl
    have hl : leadS x = (2, 13, 128, 159) := by
      unfold leadS
      rw [if_neg (no_le L rfl), if_neg (no_inL L rfl), if_neg (no_eqL L rfl), if_pos (Int.le_antisymm U L)]
    refine reads_one hl (by decide) (tailS (n := 2) (lo := 128) (hi := 159) (code := 13) (c := x - 237) (least := 53248) (ls := [(128, 192)]) (by decide) (by decide) (by decide) (fun y r _ _ => t1 _ _ _ (by omega) r) r) ?_
    simp only [reads, rows9, List.foldl_cons, List.foldl_nil, z0, z1, z2, z3, z5, z6, z7, z8]
    rw [rowSt_yes (row_in L U rfl rfl)]
    rfl
  rcases Int.lt_or_le x 240 with u | L6
  · have L := L5
    have U : x ≤ 239 := Int.le_of_lt_add_one u
    have z0 : ∀ st, rowSt (x :: r) st (0, [(0, 128)]) = st := fun st => row_hi L rfl
    have z1 : ∀ st, rowSt (x :: r) st (128, [(194, 224), (128, 192)]) = st := fun st => row_hi L rfl
    have z2 : ∀ st, rowSt (x :: r) st (2048, [(224, 225), (160, 192), (128, 192)]) = st := fun st => row_hi L rfl
    have z3 : ∀ st, rowSt (x :: r) st (4096, [(225, 237), (128, 192), (128, 192)]) = st := fun st => row_hi L rfl
    have z4 : ∀ st, rowSt (x :: r) st (53248, [(237, 238), (128, 160), (128, 192)]) = st := fun st => row_hi L rfl
    have z6 : ∀ st, rowSt (x :: r) st (65536, [(240, 241), (144, 192), (128, 192), (128, 192)]) = st := fun st => row_lo U rfl
    have z7 : ∀ st, rowSt (x :: r) st (262144, [(241, 244), (128, 192), (128, 192), (128, 192)]) = st := fun st => row_lo U rfl
    have z8 : ∀ st, rowSt (x :: r) st (1048576, [(244, 245), (128, 144), (128, 192), (128, 192)]) = st := fun st => row_lo U rfl
    have hl : leadS x = (2, x - 224, 128, 191) := by
      unfold leadS
      rw [if_neg (no_le L rfl), if_neg (no_inL L rfl), if_neg (no_eqL L rfl), if_neg (no_eqL L rfl), if_pos (yes_in L U rfl rfl)]
    refine reads_one hl (by decide) (tailS (n := 2) (lo := 128) (hi := 191) (code := x - 224) (c := x - 238) (least := 57344) (ls := [(128, 192)]) (by decide) (by decide) (by decide) (fun y r _ _ => t1 _ _ _ (by omega) r) r) ?_
    simp only [reads, rows9, List.foldl_cons, List.foldl_nil, z0, z1, z2, z3, z4, z6, z7, z8]
    rw [rowSt_yes (row_in L U rfl rfl)]
    rfl
  rcases Int.lt_or_le x 241 with u | L7
  · have L := L6
    have U : x ≤ 240 := Int.le_of_lt_add_one u
    have z0 : ∀ st, rowSt (x :: r) st (0, [(0, 128)]) = st := fun st => row_hi L rfl
    have z1 : ∀ st, rowSt (x :: r) st (128, [(194, 224), (128, 192)]) = st := fun st => row_hi L rfl
    have z2 : ∀ st, rowSt (x :: r) st (2048, [(224, 225), (160, 192), (128, 192)]) = st := fun st => row_hi L rfl
    have z3 : ∀ st, rowSt (x :: r) st (4096, [(225, 237), (128, 192), (128, 192)]) = st := fun st => row_hi L rfl
    have z4 : ∀ st, rowSt (x :: r) st (53248, [(237, 238), (128, 160), (128, 192)]) = st := fun st => row_hi L rfl
    have z5 : ∀ st, rowSt (x :: r) st (57344, [(238, 240), (128, 192), (128, 192)]) = st := fun st => row_hi L rfl
    have z7 : ∀ st, rowSt (x :: r) st (262144, [(241, 244), (128, 192), (128, 192), (128, 192)]) = st := fun st => row_lo U rfl
    have z8 : ∀ st, rowSt (x :: r) st (1048576, [(244, 245), (128, 144), (128, 192), (128, 192)]) = st := fun st => row_lo U rfl
    have hl : leadS x = (3, 0, 144, 191) := by
      unfold leadS
      rw [if_neg (no_le L rfl), if_neg (no_inL L rfl), if_neg (no_eqL L rfl), if_neg (no_eqL L rfl), if_neg (no_inL L rfl), if_pos (Int.le_antisymm U L)]
    refine reads_one hl (by decide) (tailS (n := 3) (lo := 144) (hi := 191) (code := 0) (c := x - 240) (least := 65536) (ls := [(128, 192), (128, 192)]) (by decide) (by decide) (by decide) (fun y r _ _ => t2 _ _ _ (by omega) r) r) ?_
    simp only [reads, rows9, List.foldl_cons, List.foldl_nil, z0, z1, z2, z3, z4, z5, z7, z8]
    rw [rowSt_yes (row_in L U rfl rfl)]
    rfl
  rcases Int.lt_or_le x 244 with u | L8
  · have L := L7
    have U : x ≤ 243 := Int.le_of_lt_add_one u
    have z0 : ∀ st, rowSt (x :: r) st (0, [(0, 128)]) = st := fun st => row_hi L rfl
    have z1 : ∀ st, rowSt (x :: r) st (128, [(194, 224), (128, 192)]) = st := fun st => row_hi L rfl
    have z2 : ∀ st, rowSt (x :: r) st (2048, [(224, 225), (160, 192), (128, 192)]) = st := fun st => row_hi L rfl
    have z3 : ∀ st, rowSt (x :: r) st (4096, [(225, 237), (128, 192), (128, 192)]) = st := fun st => row_hi L rfl
    have z4 : ∀ st, rowSt (x :: r) st (53248, [(237, 238), (128, 160), (128, 192)]) = st := fun st => row_hi L rfl
    have z5 : ∀ st, rowSt (x :: r) st (57344, [(238, 240), (128, 192), (128, 192)]) = st := fun st => row_hi L rfl
    have z6 : ∀ st, rowSt (x :: r) st (65536, [(240, 241), (144, 192), (128, 192), (128, 192)]) = st := fun st => row_hi L rfl
    have z8 : ∀ st, rowSt (x :: r) st (1048576, [(244, 245), (128, 144), (128, 192), (128, 192)]) = st := fun st => row_lo U rfl
    have hl : leadS x = (3, x - 240, 128, 191) := by
      unfold leadS
      rw [if_neg (no_le L rfl), if_neg (no_inL L rfl), if_neg (no_eqL L rfl), if_neg (no_eqL L rfl), if_neg (no_inL L rfl), if_neg (no_eqL L rfl), if_neg (no_eqU U rfl), if_pos (yes_in L U rfl rfl)]
    refine reads_one hl (by decide) (tailS (n := 3) (lo := 128) (hi := 191) (code := x - 240) (c := x - 241) (least := 262144) (ls := [(128, 192), (128, 192)]) (by decide) (by decide) (by decide) (fun y r _ _ => t2 _ _ _ (by omega) r) r) ?_
    simp only [reads, rows9, List.foldl_cons, List.foldl_nil, z0, z1, z2, z3, z4, z5, z6, z8]
    rw [rowSt_yes (row_in L U rfl rfl)]
    rfl
  rcases Int.lt_or_le x 245 with u | L9
  · have L := L8
    have U : x ≤ 244 := Int.le_of_lt_add_one u
    have z0 : ∀ st, rowSt (x :: r) st (0, [(0, 128)]) = st := fun st => row_hi L rfl
    have z1 : ∀ st, rowSt (x :: r) st (128, [(194, 224), (128, 192)]) = st := fun st => row_hi L rfl
    have z2 : ∀ st, rowSt (x :: r) st (2048, [(224, 225), (160, 192), (128, 192)]) = st := fun st => row_hi L rfl
    have z3 : ∀ st, rowSt (x :: r) st (4096, [(225, 237), (128, 192), (128, 192)]) = st := fun st => row_hi L rfl
    have z4 : ∀ st, rowSt (x :: r) st (53248, [(237, 238), (128, 160), (128, 192)]) = st := fun st => row_hi L rfl
    have z5 : ∀ st, rowSt (x :: r) st (57344, [(238, 240), (128, 192), (128, 192)]) = st := fun st => row_hi L rfl
    have z6 : ∀ st, rowSt (x :: r) st (65536, [(240, 241), (144, 192), (128, 192), (128, 192)]) = st := fun st => row_hi L rfl
    have z7 : ∀ st, rowSt (x :: r) st (262144, [(241, 244), (128, 192), (128, 192), (128, 192)]) = st := fun st => row_hi L rfl
    have hl : leadS x = (3, 4, 128, 143) := by
      unfold leadS
      rw [if_neg (no_le L rfl), if_neg (no_inL L rfl), if_neg (no_eqL L rfl), if_neg (no_eqL L rfl), if_neg (no_inL L rfl), if_neg (no_eqL L rfl), if_pos (Int.le_antisymm U L)]
    refine reads_one hl (by decide) (tailS (n := 3) (lo := 128) (hi := 143) (code := 4) (c := x - 244) (least := 1048576) (ls := [(128, 192), (128, 192)]) (by decide) (by decide) (by decide) (fun y r _ _ => t2 _ _ _ (by omega) r) r) ?_
    simp only [reads, rows9, List.foldl_cons, List.foldl_nil, z0, z1, z2, z3, z4, z5, z6, z7]
    rw [rowSt_yes (row_in L U rfl rfl)]
    rfl
  have L := L9
  have z0 : ∀ st, rowSt (x :: r) st (0, [(0, 128)]) = st := fun st => row_hi L rfl
  have z1 : ∀ st, rowSt (x :: r) st (128, [(194, 224), (128, 192)]) = st := fun st => row_hi L rfl
  have z2 : ∀ st, rowSt (x :: r) st (2048, [(224, 225), (160, 192), (128, 192)]) = st := fun st => row_hi L rfl
  have z3 : ∀ st, rowSt (x :: r) st (4096, [(225, 237), (128, 192), (128, 192)]) = st := fun st => row_hi L rfl
  have z4 : ∀ st, rowSt (x :: r) st (53248, [(237, 238), (128, 160), (128, 192)]) = st := fun st => row_hi L rfl
  have z5 : ∀ st, rowSt (x :: r) st (57344, [(238, 240), (128, 192), (128, 192)]) = st := fun st => row_hi L rfl
  have z6 : ∀ st, rowSt (x :: r) st (65536, [(240, 241), (144, 192), (128, 192), (128, 192)]) = st := fun st => row_hi L rfl
  have z7 : ∀ st, rowSt (x :: r) st (262144, [(241, 244), (128, 192), (128, 192), (128, 192)]) = st := fun st => row_hi L rfl
  have z8 : ∀ st, rowSt (x :: r) st (1048576, [(244, 245), (128, 144), (128, 192), (128, 192)]) = st := fun st => row_hi L rfl
  have hl : leadS x = (0, 65533, 128, 191) := by
    unfold leadS
    rw [if_neg (no_le L rfl), if_neg (no_inL L rfl), if_neg (no_eqL L rfl), if_neg (no_eqL L rfl), if_neg (no_inL L rfl), if_neg (no_eqL L rfl), if_neg (no_eqL L rfl), if_neg (no_inL L rfl)]
  refine reads_lone hl ?_
  simp only [reads, rows9, List.foldl_cons, List.foldl_nil, z0, z1, z2, z3, z4, z5, z6, z7, z8]
end Mine

namespace Mine
open PySem PySem.W PySem.Calls PyProof.Rows PySem.SeqAt

noncomputable def bnd : List (Int × Int) → Int → Int
  | [], C => C
  | (a, b) :: ls, C => max C (bnd ls (C * (b - a) + (b - a - 1)))
theorem bnd_ge : ∀ (ls : List (Int × Int)) (C : Int), C ≤ bnd ls C
  | [], C => Int.le_refl _
  | (a, b) :: ls, C => by unfold bnd; omega
theorem scan_bound : ∀ (ls : List (Int × Int)) (o : List Int) (c C : Int), (∀ p ∈ ls, p.1 < p.2) → 0 ≤ c → c ≤ C → 0 ≤ (scan ls o c).1 ∧ (scan ls o c).1 ≤ bnd ls C
  | [], o, c, C, _, h0, h1 => by simp [scan, bnd]; omega
  | p :: ls, [], c, C, h, h0, h1 => by
    have := bnd_ge (p :: ls) C
    simp only [scan]
    omega
  | (a, b) :: ls, x :: xs, c, C, h, h0, h1 => by
    have hp := h (a, b) List.mem_cons_self
    simp only at hp
    by_cases q : a ≤ x ∧ x < b
    · rw [scan_yes q]
      have m1 : 0 ≤ c * (b - a) := Int.mul_nonneg h0 (by omega)
      have m2 : c * (b - a) ≤ C * (b - a) := Int.mul_le_mul_of_nonneg_right h1 (by omega)
      have ih := scan_bound ls xs (c * (b - a) + x - a) (C * (b - a) + (b - a - 1)) (fun p hp => h p (List.mem_cons_of_mem _ hp)) (by omega) (by omega)
      refine ⟨ih.1, ?_⟩
      unfold bnd
      simp only
      omega
    · rw [scan_no q]
      have := bnd_ge ((a, b) :: ls) C
      simp only
      omega

theorem rows9_ok : ∀ row ∈ rows9, (∀ p ∈ row.2, p.1 < p.2 ∧ 0 ≤ p.1 ∧ p.2 ≤ 256) ∧ 0 ≤ row.1 ∧ row.1 + bnd row.2 0 ≤ 1114111 ∧ row.2.length ≤ 4 := by decide

noncomputable def dLet (p : Int × Int) : D := .tup [.int p.1, .int p.2]
noncomputable def dRow (r : Int × List (Int × Int)) : D := .tup [.int r.1, .lst (r.2.map dLet)]
noncomputable def dRows : D := .lst (rows9.map dRow)

noncomputable def σw (o : List Int) (tx : List Nat) (at' : Nat) (step : Nat) (sign : Int) (least : Slot) (lets : Slot) (c m : Slot) : List Slot :=
  [.val dRows, .val (.lst (o.map .int)), .val (.str tx), .val (.int at'), .val (.int step), .val (.str [sign.toNat]), least, lets, c, m]

noncomputable def WT : X := .land [.cmp (.var 9) [.lt] [.prim .len [.var 7]], .cmp (.bin .add (.var 3) (.var 9)) [.lt] [.prim .len [.var 1]], .cmp (.item (.item (.var 7) (.var 9)) (.int 0)) [.le, .lt] [.item (.var 1) (.bin .add (.var 3) (.var 9)), .item (.item (.var 7) (.var 9)) (.int 1)]]
noncomputable def WB : List XS := [
        .assign 8 (.bin .sub (.bin .add (.bin .mul (.var 8) (.bin .sub (.item (.item (.var 7) (.var 9)) (.int 1)) (.item (.item (.var 7) (.var 9)) (.int 0)))) (.item (.var 1) (.bin .add (.var 3) (.var 9)))) (.item (.item (.var 7) (.var 9)) (.int 0))),
        .assign 9 (.bin .add (.var 9) (.int 1))]
noncomputable def RB : List XS := [
      .assign 8 (.int 0),
      .assign 9 (.int 0),
      .while_ WT WB,
      .assign 4 (.prim .max [.var 4, .var 9]),
      .ite (.cmp (.var 9) [.eq] [.prim .len [.var 7]]) [
        .assign 5 (.prim .chr [.bin .add (.var 6) (.var 8)])] [
]]

section
variable {F : FTab} {wf : Nat} {o : List Int} {tx : List Nat} {at' step : Nat} {sign : Int} {least : Int} {lets : List (Int × Int)}

theorem w_lets {σ : List Slot} {m : Nat} {a b : Int} (v7 : evE F σ none (.var 7) = some (.lst (lets.map dLet))) (v9 : evE F σ none (.var 9) = some (.int m)) (hm : m < big) (hg : lets[m]? = some (a, b)) :
    evE F σ none (.item (.item (.var 7) (.var 9)) (.int 0)) = some (.int a) ∧ evE F σ none (.item (.item (.var 7) (.var 9)) (.int 1)) = some (.int b) := by
  have h : evE F σ none (.item (.var 7) (.var 9)) = some (dLet (a, b)) := e_item v7 v9 (i_lst (n := m) rfl hm (by rw [List.getElem?_map, hg]; rfl))
  exact ⟨e_item h (e_int 0) (i_tup (n := 0) rfl (by decide) rfl), e_item h (e_int 1) (i_tup (n := 1) rfl (by decide) rfl)⟩

theorem w_oct {σ : List Slot} {m : Nat} {y : Int} (v1 : evE F σ none (.var 1) = some (.lst (o.map .int))) (v3 : evE F σ none (.var 3) = some (.int at')) (v9 : evE F σ none (.var 9) = some (.int m)) (ho : o.length ≤ 1000) (hx : o[at' + m]? = some y) :
    evE F σ none (.item (.var 1) (.bin .add (.var 3) (.var 9))) = some (.int y) := by
  have h3 := (List.getElem?_eq_some_iff.mp hx).1
  exact e_item v1 (e_add v3 v9) (i_lst (n := at' + m) (by omega) (by unfold big; omega) (by rw [List.getElem?_map, hx]; rfl))

theorem WT_ok {σ : List Slot} {m : Nat} (v1 : evE F σ none (.var 1) = some (.lst (o.map .int))) (v3 : evE F σ none (.var 3) = some (.int at')) (v7 : evE F σ none (.var 7) = some (.lst (lets.map dLet))) (v9 : evE F σ none (.var 9) = some (.int m))
    (ho : o.length ≤ 1000) (hl : lets.length ≤ 4) {r : Bool} (hr : m < lets.length → at' + m < o.length → evE F σ none (.cmp (.item (.item (.var 7) (.var 9)) (.int 0)) [.le, .lt] [.item (.var 1) (.bin .add (.var 3) (.var 9)), .item (.item (.var 7) (.var 9)) (.int 1)]) = some (.bool r)) :
    evE F σ none WT = some (.bool (decide (m < lets.length) && (decide (at' + m < o.length) && r))) := by
  have hlb : (lets.map dLet).length ≤ big := by rw [List.length_map]; unfold big; omega
  have hob : (o.map D.int).length ≤ big := by rw [List.length_map]; unfold big; omega
  have t1 : evE F σ none (.cmp (.var 9) [.lt] [.prim .len [.var 7]]) = some (.bool (decide (m < lets.length))) := by
    have := e_lt v9 (e_prim (e_args v7 e_args0) (p_len hlb))
    rw [this, List.length_map]
    congr 2
    rw [decide_eq_decide]; omega
  have t2 : evE F σ none (.cmp (.bin .add (.var 3) (.var 9)) [.lt] [.prim .len [.var 1]]) = some (.bool (decide (at' + m < o.length))) := by
    have := e_lt (e_add v3 v9) (e_prim (e_args v1 e_args0) (p_len hob))
    rw [this, List.length_map]
    congr 2
    rw [decide_eq_decide]; omega
  exact e_and3 t1 (fun _ => t2) (fun h1 h2 => hr (of_decide_eq_true h1) (of_decide_eq_true h2))

theorem WB_ok {σ : List Slot} {m : Nat} {a b c y : Int} (v8 : evE F σ none (.var 8) = some (.int c)) (v9 : σ[9]? = some (.val (.int m)))
    (hL : evE F σ none (.item (.item (.var 7) (.var 9)) (.int 0)) = some (.int a)) (hH : evE F σ none (.item (.item (.var 7) (.var 9)) (.int 1)) = some (.int b))
    (hO : evE F σ none (.item (.var 1) (.bin .add (.var 3) (.var 9))) = some (.int y)) (hb : -1073741824 < b - a ∧ b - a < 1073741824) :
    exS F wf σ WB = some (.next ((σ.set 8 (.val (.int (c * (b - a) + y - a)))).set 9 (.val (.int ((m : Int) + 1))))) := by
  refine (exS_next (s_assign (e_sub (e_add (e_mul v8 (e_sub hH hL) hb) hO) hL))).trans ?_
  refine (exS_next (s_assign (e_add (e_var (d := .int m) ?_) (e_int 1)))).trans ?_
  · rw [List.getElem?_set_ne (by decide)]; exact v9
  · rw [exS_nil]

theorem σw_set {le ls c m x y : Slot} : ((σw o tx at' step sign le ls c m).set 8 x).set 9 y = σw o tx at' step sign le ls x y := rfl

theorem while_scan (ho : o.length ≤ 1000) (hl : lets.length ≤ 4) (hp : ∀ p ∈ lets, p.1 < p.2 ∧ 0 ≤ p.1 ∧ p.2 ≤ 256)  (ls : List (Int × Int)) : ∀ (m : Nat) (c : Int) (fuel : Nat), lets.drop m = ls → m ≤ lets.length → ls.length < fuel →
    whileL (fun σ => evE F σ none WT) (fun σ => exS F wf σ WB) fuel (σw o tx at' step sign (.val (.int least)) (.val (.lst (lets.map dLet))) (.val (.int c)) (.val (.int m))) =
      some (.next (σw o tx at' step sign (.val (.int least)) (.val (.lst (lets.map dLet))) (.val (.int (scan ls (o.drop (at' + m)) c).1)) (.val (.int ((m + (scan ls (o.drop (at' + m)) c).2 : Nat) : Int))))) := by
  induction ls with
  | nil =>
    intro m c fuel hd hm hf
    obtain ⟨fuel, rfl⟩ : ∃ f, fuel = f + 1 := ⟨fuel - 1, by simp at hf; omega⟩
    have hm2 : lets.length ≤ m := by simpa using hd
    have h1 := WT_ok (F := F) (σ := σw o tx at' step sign (.val (.int least)) (.val (.lst (lets.map dLet))) (.val (.int c)) (.val (.int m))) (o := o) (at' := at') (lets := lets) (m := m) (r := true)
      (e_var rfl) (e_var rfl) (e_var rfl) (e_var rfl) ho hl (fun q => by omega)
    rw [decide_eq_false (by omega), Bool.false_and] at h1
    refine (wl_false h1).trans ?_
    rw [scan]
    rfl
  | cons p ls ih =>
    obtain ⟨a, b⟩ := p
    intro m c fuel hd hm hf
    obtain ⟨fuel, rfl⟩ : ∃ f, fuel = f + 1 := ⟨fuel - 1, by simp at hf; omega⟩
    have hlt : m < lets.length := by
      rcases Nat.lt_or_ge m lets.length with q | q
      · exact q
      · rw [List.drop_eq_nil_of_le q] at hd; cases hd
    have hmb : m < big := by unfold big; omega
    have hg : lets[m]? = some (a, b) := by
      have := List.getElem?_drop (xs := lets) (i := m) (j := 0)
      rw [hd] at this
      simpa using this.symm
    have hd' : lets.drop (m + 1) = ls := by rw [← List.drop_drop, hd]; rfl
    have hpab := hp (a, b) (List.mem_of_getElem? hg)
    simp only at hpab
    have v1 : evE F (σw o tx at' step sign (.val (.int least)) (.val (.lst (lets.map dLet))) (.val (.int c)) (.val (.int m))) none (.var 1) = some (.lst (o.map .int)) := e_var rfl
    have v3 : evE F (σw o tx at' step sign (.val (.int least)) (.val (.lst (lets.map dLet))) (.val (.int c)) (.val (.int m))) none (.var 3) = some (.int at') := e_var rfl
    have v7 : evE F (σw o tx at' step sign (.val (.int least)) (.val (.lst (lets.map dLet))) (.val (.int c)) (.val (.int m))) none (.var 7) = some (.lst (lets.map dLet)) := e_var rfl
    have v8 : evE F (σw o tx at' step sign (.val (.int least)) (.val (.lst (lets.map dLet))) (.val (.int c)) (.val (.int m))) none (.var 8) = some (.int c) := e_var rfl
    have v9 : evE F (σw o tx at' step sign (.val (.int least)) (.val (.lst (lets.map dLet))) (.val (.int c)) (.val (.int m))) none (.var 9) = some (.int m) := e_var rfl
    have h9 : (σw o tx at' step sign (.val (.int least)) (.val (.lst (lets.map dLet))) (.val (.int c)) (.val (.int m)))[9]? = some (.val (.int m)) := rfl
    have hL := w_lets v7 v9 hmb hg
    by_cases hx : at' + m < o.length
    · have hox : o[at' + m]? = some o[at' + m] := List.getElem?_eq_getElem hx
      have hdr : o.drop (at' + m) = o[at' + m] :: o.drop (at' + m + 1) := List.drop_eq_getElem_cons hx
      generalize o[at' + m] = y at *
      have hO := w_oct v1 v3 v9 ho hox
      have hT := WT_ok v1 v3 v7 v9 ho hl (fun _ _ => e_lelt hL.1 hO hL.2)
      rw [decide_eq_true hlt, decide_eq_true hx, Bool.true_and, Bool.true_and] at hT
      by_cases hab : a ≤ y ∧ y < b
      · rw [decide_eq_true hab] at hT
        have hB := WB_ok (wf := wf) v8 h9 hL.1 hL.2 hO (by omega)
        rw [σw_set, show ((m : Int) + 1) = ((m + 1 : Nat) : Int) from by simp] at hB
        refine (wl_next (t := fun σ => evE F σ none WT) (g := fun σ => exS F wf σ WB) hT hB).trans ?_
        have ih := ih (m + 1) (c * (b - a) + y - a) fuel hd' (by omega) (by simp at hf; omega)
        rw [hdr, scan_yes hab]
        have e2 : m + ((scan ls (o.drop (at' + m + 1)) (c * (b - a) + y - a)).2 + 1) = m + 1 + (scan ls (o.drop (at' + (m + 1))) (c * (b - a) + y - a)).2 := by
          rw [Nat.add_assoc at' m 1]; omega
        simp only [e2]
        exact ih
      · rw [decide_eq_false hab] at hT
        refine (wl_false hT).trans ?_
        rw [hdr, scan_no hab]
        rfl
    · have hT := WT_ok (r := true) v1 v3 v7 v9 ho hl (fun _ q => absurd q hx)
      rw [decide_eq_false hx, Bool.false_and, Bool.and_false] at hT
      refine (wl_false hT).trans ?_
      rw [List.drop_eq_nil_of_le (by omega), scan]
      rfl
end
end Mine

namespace Mine
open PySem PySem.W PySem.Calls PyProof.Rows PySem.SeqAt

section
variable {F : FTab} {wf : Nat} {σ σ' : List Slot} {o : List Int} {tx : List Nat} {at' : Nat}

theorem exS_cons {x : XS} {xs : List XS} {out : Option Out} (h : exX F wf σ x = some (.next σ')) (h2 : exS F wf σ' xs = out) : exS F wf σ (x :: xs) = out := (exS_next h).trans h2

/-- one row -/
theorem row_ok (hwf : 10 ≤ wf) (ho : o.length ≤ 1000) (row : Int × List (Int × Int)) (hr : row ∈ rows9) (st : Nat × Int) (c m : Slot) (hs : st.1 ≤ 1000) :
    exS F wf (σw o tx at' st.1 st.2 (.val (.int row.1)) (.val (.lst (row.2.map dLet))) c m) RB =
      some (.next (σw o tx at' (rowSt (o.drop at') st row).1 (rowSt (o.drop at') st row).2 (.val (.int row.1)) (.val (.lst (row.2.map dLet))) (.val (.int (scan row.2 (o.drop at') 0).1)) (.val (.int ((scan row.2 (o.drop at') 0).2 : Nat))))) := by
  obtain ⟨k1, k2, k3, k4⟩ := rows9_ok row hr
  rw [show rowSt (o.drop at') st row = (if (scan row.2 (o.drop at') 0).2 > st.1 then (scan row.2 (o.drop at') 0).2 else st.1, if (scan row.2 (o.drop at') 0).2 = row.2.length then row.1 + (scan row.2 (o.drop at') 0).1 else st.2) from rfl]
  have hb := scan_bound row.2 (o.drop at') 0 0 (fun p hp => (k1 p hp).1) (by omega) (by omega)
  have hW := while_scan (F := F) (wf := wf) (tx := tx) (at' := at') (step := st.1) (sign := st.2) (least := row.1) ho k4 k1 row.2 0 0 wf rfl (Nat.zero_le _) (by omega)
  simp only [Nat.add_zero, Nat.zero_add] at hW
  refine exS_cons (s_assign (e_int 0)) (exS_cons (s_assign (e_int 0)) ?_)
  refine exS_cons (σ' := σw o tx at' st.1 st.2 (.val (.int row.1)) (.val (.lst (row.2.map dLet))) (.val (.int (scan row.2 (o.drop at') 0).1)) (.val (.int ((scan row.2 (o.drop at') 0).2 : Nat)))) (s_while hW) ?_
  generalize scan row.2 (o.drop at') 0 = sc at *
  obtain ⟨cnt, many⟩ := sc
  simp only at hb ⊢
  have hlb : (row.2.map dLet).length ≤ big := by rw [List.length_map]; unfold big; omega
  have hmax : evPrim .max [.int st.1, .int many] = some (.int ((if many > st.1 then many else st.1 : Nat) : Int)) := by
    simp only [evPrim]
    congr 2
    by_cases q : many > st.1
    · rw [if_pos q, if_pos (by omega)]
    · rw [if_neg q, if_neg (by omega)]
  refine exS_cons (s_assign (e_prim (e_args (e_var (d := .int st.1) rfl) (e_args (e_var (d := .int many) rfl) e_args0)) hmax)) ?_
  rw [exS_one]
  have ht := e_eqi (F := F) (σ := (σw o tx at' st.1 st.2 (.val (.int row.1)) (.val (.lst (row.2.map dLet))) (.val (.int cnt)) (.val (.int many))).set 4 (.val (.int ((if many > st.1 then many else st.1 : Nat) : Int))))
    (cv := none) (e_var (i := 9) (d := .int many) rfl) (e_prim (e_args (e_var (i := 7) (d := .lst (row.2.map dLet)) rfl) e_args0) (p_len hlb))
  rw [List.length_map] at ht
  by_cases q : many = row.2.length
  · rw [decide_eq_true (by omega)] at ht
    refine (s_ite_t ht).trans ?_
    rw [exS_one]
    refine (s_assign (e_prim (e_args (e_add (e_var (d := .int row.1) rfl) (e_var (d := .int cnt) rfl)) e_args0) (p_chr (by omega) (by omega)))).trans ?_
    rw [if_pos q]
    rfl
  · rw [decide_eq_false (by omega)] at ht
    refine (s_ite_f ht).trans ?_
    rw [exS_nil, if_neg q]
    rfl

theorem setT_row {row : Int × List (Int × Int)} {st : Nat × Int} {le ls c m : Slot} : setT (.many [6, 7]) (dRow row) (σw o tx at' st.1 st.2 le ls c m) = some (σw o tx at' st.1 st.2 (.val (.int row.1)) (.val (.lst (row.2.map dLet))) c m) := by
  have b2 : (2 : Nat) ≤ big := by decide
  simp only [dRow, setT, List.length_cons, List.length_nil]
  rw [if_pos (by simpa using b2)]
  rfl

theorem rowSt_le (o' : List Int) (ho : o'.length ≤ 1000) (st : Nat × Int) (hs : st.1 ≤ 1000) (row : Int × List (Int × Int)) (h : (scan row.2 o' 0).2 ≤ 1000) : (rowSt o' st row).1 ≤ 1000 := by
  unfold rowSt
  simp only
  split <;> omega
theorem scan_len : ∀ (ls : List (Int × Int)) (o : List Int) (c : Int), (scan ls o c).2 ≤ ls.length
  | [], o, c => by simp [scan]
  | _ :: ls, [], c => by simp [scan]
  | (a, b) :: ls, x :: xs, c => by
    have ih := scan_len ls xs (c * (b - a) + x - a)
    by_cases q : a ≤ x ∧ x < b
    · rw [scan_yes q]; simp only [List.length_cons]; omega
    · rw [scan_no q]; simp

theorem rows_ok (hwf : 10 ≤ wf) (ho : o.length ≤ 1000) : ∀ (rs : List (Int × List (Int × Int))) (st : Nat × Int) (le ls c m : Slot), (∀ row ∈ rs, row ∈ rows9) → st.1 ≤ 1000 →
    ∃ le' ls' c' m', forL (fun d σ => match setT (.many [6, 7]) d σ with
      | some σ' => exS F wf σ' RB
      | none => none) (rs.map dRow) (σw o tx at' st.1 st.2 le ls c m) = some (.next (σw o tx at' (rs.foldl (rowSt (o.drop at')) st).1 (rs.foldl (rowSt (o.drop at')) st).2 le' ls' c' m')) := by
  intro rs
  induction rs with
  | nil => intro st le ls c m _ _; exact ⟨le, ls, c, m, rfl⟩
  | cons row rs ih =>
    intro st le ls c m hr hs
    have hrow := hr row List.mem_cons_self
    have k4 := (rows9_ok row hrow).2.2.2
    have hsl := scan_len row.2 (o.drop at') 0
    obtain ⟨le', ls', c', m', e⟩ := ih (rowSt (o.drop at') st row) (.val (.int row.1)) (.val (.lst (row.2.map dLet))) (.val (.int (scan row.2 (o.drop at') 0).1)) (.val (.int ((scan row.2 (o.drop at') 0).2 : Nat)))
      (fun r q => hr r (List.mem_cons_of_mem _ q)) (by unfold rowSt; simp only; split <;> omega)
    refine ⟨le', ls', c', m', ?_⟩
    rw [List.map_cons, forL, setT_row]
    simp only
    rw [row_ok hwf ho row hrow st c m hs]
    simp only
    rw [e]
    rfl
end

noncomputable def OT : X := .cmp (.var 3) [.lt] [.prim .len [.var 1]]
noncomputable def OB : List XS := [
    .assign 4 (.int 1),
    .assign 5 (.str [65533]),
    .for_ (.many [6, 7]) (.var 0) RB,
    .assign 2 (.bin .add (.var 2) (.var 5)),
    .assign 3 (.bin .add (.var 3) (.var 4))]
theorem P15_eq : P_law_utf8 = .ite (.cmp (.upto (.var 1) (.int 3)) [.eq] [.lst [.int 239, .int 187, .int 191]]) [.assign 1 (.from_ (.var 1) (.int 3))] [] :: .assign 2 (.str []) :: .assign 3 (.int 0) :: .while_ OT OB :: .ret (.var 2) :: [] := rfl

noncomputable def σo (o : List Int) (tx : List Nat) (at' : Nat) (s4 s5 s6 s7 s8 s9 : Slot) : List Slot := [.val dRows, .val (.lst (o.map .int)), .val (.str tx), .val (.int at'), s4, s5, s6, s7, s8, s9]

section
variable {F : FTab} {wf : Nat} {o : List Int}

theorem outer_ok (hwf : 10 ≤ wf) (ho : o.length ≤ 1000) (h0 : ∀ x ∈ o, 0 ≤ x) : ∀ (fuel : Nat) (tx : List Nat) (at' : Nat) (s4 s5 s6 s7 s8 s9 : Slot), o.length - at' < fuel → at' ≤ o.length → tx.length ≤ at' →
    ∃ at'' t4 t5 t6 t7 t8 t9, whileL (fun σ => evE F σ none OT) (fun σ => exS F wf σ OB) fuel (σo o tx at' s4 s5 s6 s7 s8 s9) = some (.next (σo o (tx ++ m8 0 0 128 191 (o.drop at')) at'' t4 t5 t6 t7 t8 t9)) := by
  intro fuel
  induction fuel with
  | zero => intro tx at' s4 s5 s6 s7 s8 s9 h; omega
  | succ fuel ih =>
    intro tx at' s4 s5 s6 s7 s8 s9 hf hle htx
    have hob : (o.map D.int).length ≤ big := by rw [List.length_map]; unfold big; omega
    have hT : evE F (σo o tx at' s4 s5 s6 s7 s8 s9) none OT = some (.bool (decide ((at' : Int) < ((o.map D.int).length : Nat)))) :=
      e_lt (e_var rfl) (e_prim (e_args (e_var (d := .lst (o.map .int)) rfl) e_args0) (p_len hob))
    rw [List.length_map] at hT
    by_cases hx : at' < o.length
    · rw [decide_eq_true (by omega)] at hT
      have hdr : o.drop at' = o[at'] :: o.drop (at' + 1) := List.drop_eq_getElem_cons hx
      have hr := reads_ok o[at'] (o.drop (at' + 1)) (h0 _ (List.getElem_mem hx))
      rw [← hdr] at hr
      obtain ⟨r1, r2, r3⟩ := hr
      obtain ⟨le', ls', c', m', e⟩ := rows_ok (F := F) (wf := wf) (tx := tx) (at' := at') hwf ho rows9 (1, 65533) s6 s7 s8 s9 (fun _ q => q) (by simp)
      have hdl : (o.drop (at' + 1)).length = o.length - (at' + 1) := List.length_drop
      change (1 : Nat) ≤ (reads (o.drop at')).1 at r1
      have hB : exS F wf (σo o tx at' s4 s5 s6 s7 s8 s9) OB = some (.next (σo o (tx ++ [(reads (o.drop at')).2.toNat]) (at' + (reads (o.drop at')).1) (.val (.int (reads (o.drop at')).1)) (.val (.str [(reads (o.drop at')).2.toNat])) le' ls' c' m')) := by
        refine exS_cons (s_assign (e_int 1)) (exS_cons (s_assign (e_str [65533])) ?_)
        refine exS_cons (s_for (e_var (d := dRows) rfl) (l := rows9.map dRow) ?_ e) ?_
        · show itemsOf (.lst (rows9.map dRow)) = _
          simp only [itemsOf]
          rw [if_pos (by decide)]
        · refine exS_cons (s_assign (e_cats (e_var (d := .str tx) rfl) (e_var (d := .str [(reads (o.drop at')).2.toNat]) rfl) (by simp only [List.length_cons, List.length_nil]; unfold big; omega))) ?_
          rw [exS_one]
          exact s_assign (e_add (e_var (d := .int at') rfl) (e_var (d := .int (reads (o.drop at')).1) rfl))
      obtain ⟨at'', t4, t5, t6, t7, t8, t9, e2⟩ := ih (tx ++ [(reads (o.drop at')).2.toNat]) (at' + (reads (o.drop at')).1) (.val (.int (reads (o.drop at')).1)) (.val (.str [(reads (o.drop at')).2.toNat])) le' ls' c' m' (by omega) (by omega) (by simp only [List.length_append, List.length_cons, List.length_nil]; omega)
      refine ⟨at'', t4, t5, t6, t7, t8, t9, ?_⟩
      refine (wl_next (t := fun σ => evE F σ none OT) (g := fun σ => exS F wf σ OB) hT hB).trans ?_
      rw [e2, r3, List.append_assoc, ← List.drop_drop]
    · rw [decide_eq_false (by omega)] at hT
      refine ⟨at', s4, s5, s6, s7, s8, s9, (wl_false (t := fun σ => evE F σ none OT) hT).trans ?_⟩
      rw [List.drop_eq_nil_of_le (by omega)]
      simp [m8]
end

noncomputable def bom8 (o : List Int) : List Int := if o.take 3 = [239, 187, 191] then o.drop 3 else o

theorem F_lawutf8 {wf i : Nat} (hi : 15 < i) (hwf : 2000 ≤ wf) (o : List Int) (ho : o.length ≤ 1000) (h0 : ∀ x ∈ o, 0 ≤ x) :
    Fn wf i 15 [dRows, .lst (o.map .int)] = some (.str (m8 0 0 128 191 (bom8 o))) := by
  refine F_ret hi rfl ?_
  show exS _ _ [.val dRows, .val (.lst (o.map .int)), .no, .no, .no, .no, .no, .no, .no, .no] P_law_utf8 = _
  rw [P15_eq]
  have hob : (o.map D.int).length ≤ big := by rw [List.length_map]; unfold big; omega
  have b3 : 3 ≤ big := by decide
  have e1 : exX (Fn wf 15) wf [.val dRows, .val (.lst (o.map .int)), .no, .no, .no, .no, .no, .no, .no, .no] (.ite (.cmp (.upto (.var 1) (.int 3)) [.eq] [.lst [.int 239, .int 187, .int 191]]) [.assign 1 (.from_ (.var 1) (.int 3))] []) =
      some (.next [.val dRows, .val (.lst ((bom8 o).map .int)), .no, .no, .no, .no, .no, .no, .no, .no]) := by
    have hup : evE (Fn wf 15) [.val dRows, .val (.lst (o.map .int)), .no, .no, .no, .no, .no, .no, .no, .no] none (.upto (.var 1) (.int 3)) = some (.lst ((o.take 3).map .int)) := by
      refine e_upto (e_var (d := .lst (o.map .int)) rfl) (e_int 3) ?_
      simp only [evCut, Option.getD_none, Option.getD_some, cutL]
      rw [if_pos ⟨by decide, by decide, hob⟩]
      simp [List.map_take]
    have hcmp : evCmp .eq (.lst ((o.take 3).map .int)) (.lst [.int 239, .int 187, .int 191]) = some (decide (o.take 3 = [239, 187, 191])) := by
      have hlen : ((o.take 3).map D.int).length ≤ big ∧ [D.int 239, D.int 187, D.int 191].length ≤ big := ⟨by rw [List.length_map, List.length_take]; omega, b3⟩
      simp only [evCmp, evEq]
      rw [if_pos hlen, intsOf_map, show intsOf [D.int 239, D.int 187, D.int 191] = some [239, 187, 191] from rfl]
      simp only
      congr 1
      rw [Bool.eq_iff_iff]; simp
    have ht := e_cmp1 hup (e_lst (e_args (e_int (F := Fn wf 15) (σ := [.val dRows, .val (.lst (o.map .int)), .no, .no, .no, .no, .no, .no, .no, .no]) (cv := none) 239) (e_args (e_int 187) (e_args (e_int 191) e_args0)))) hcmp
    unfold bom8
    by_cases q : o.take 3 = [239, 187, 191]
    · rw [decide_eq_true q] at ht
      refine (s_ite_t ht).trans ?_
      rw [exS_one, if_pos q]
      refine (s_assign (d := .lst ((o.drop 3).map .int)) (e_from (e_var (d := .lst (o.map .int)) rfl) (e_int 3) ?_)).trans rfl
      simp only [evCut, Option.getD_none, Option.getD_some, cutL]
      rw [if_pos ⟨by decide, by decide, hob⟩]
      simp [List.map_drop]
    · rw [decide_eq_false q] at ht
      refine (s_ite_f ht).trans ?_
      rw [exS_nil, if_neg q]
  have hb1 : (bom8 o).length ≤ 1000 := by
    unfold bom8
    split
    · rw [List.length_drop]; omega
    · exact ho
  have hb2 : ∀ x ∈ bom8 o, 0 ≤ x := fun x hx => by
    unfold bom8 at hx
    split at hx
    · exact h0 x (List.mem_of_mem_drop hx)
    · exact h0 x hx
  refine exS_cons e1 (exS_cons (s_assign (e_str [])) (exS_cons (s_assign (e_int 0)) ?_))
  obtain ⟨at'', t4, t5, t6, t7, t8, t9, e2⟩ := outer_ok (F := Fn wf 15) (wf := wf) (by omega) hb1 hb2 wf [] 0 .no .no .no .no .no .no (by omega) (Nat.zero_le _) (by simp)
  rw [List.nil_append, List.drop_zero] at e2
  refine exS_cons (s_while e2) ?_
  exact exS_ret (s_ret (e_var rfl))
end Mine

namespace Mine
open PySem PySem.W PySem.Calls PyProof.Rows PySem.SeqAt

noncomputable def isInt (x : Option D) (i : Int) : Bool := match x with | some (.int j) => j == i | _ => false
noncomputable def isStr (x : Option D) (l : List Nat) : Bool := match x with | some (.str j) => j == l | _ => false
theorem isInt_eq {x : Option D} {i : Int} (h : isInt x i = true) : x = some (.int i) := by
  unfold isInt at h
  split at h
  · rw [beq_iff_eq.mp h]
  · cases h
theorem isStr_eq {x : Option D} {l : List Nat} (h : isStr x l = true) : x = some (.str l) := by
  unfold isStr at h
  split at h
  · rw [beq_iff_eq.mp h]
  · cases h

noncomputable def winMid : List Int := [8364, 129, 8218, 402, 8222, 8230, 8224, 8225, 710, 8240, 352, 8249, 338, 141, 381, 143, 144, 8216, 8217, 8220, 8221, 8226, 8211, 8212, 732, 8482, 353, 8250, 339, 157, 382, 376]
noncomputable def winT : List Int := (List.range 128).map (fun i : Nat => (i : Int)) ++ winMid ++ (List.range 96).map (fun i : Nat => (i : Int) + 160)
noncomputable def userT : List Int := (List.range 128).map (fun i : Nat => (i : Int)) ++ (List.range 128).map (fun i : Nat => (i : Int) + 63360)
noncomputable def win (o : Int) : Int := winT.getD o.toNat 0
noncomputable def usr (o : Int) : Int := userT.getD o.toNat 0

theorem c1_all : ((List.range 256).all fun o => isInt (Fn 5000 1 0 [.int o]) (win o)) = true := by decide +kernel
theorem usr_all : ((List.range 256).all fun o => isStr (Fn 5000 6 5 [.int o]) [(usr o).toNat]) = true := by decide +kernel
theorem byte_nat {o : Int} (h0 : 0 ≤ o) (h1 : o < 256) : ∃ k : Nat, o = k ∧ k ∈ List.range 256 := ⟨o.toNat, by omega, by rw [List.mem_range]; omega⟩
theorem F_c1 {i : Nat} (hi : 0 < i) {o : Int} (h0 : 0 ≤ o) (h1 : o < 256) : Fn 5000 i 0 [.int o] = some (.int (win o)) := by
  obtain ⟨k, rfl, hk⟩ := byte_nat h0 h1
  rw [Fn_low hi]
  exact isInt_eq (List.all_eq_true.mp c1_all k hk)
theorem F_usr {i : Nat} (hi : 5 < i) {o : Int} (h0 : 0 ≤ o) (h1 : o < 256) : Fn 5000 i 5 [.int o] = some (.str [(usr o).toNat]) := by
  obtain ⟨k, rfl, hk⟩ := byte_nat h0 h1
  rw [Fn_low hi]
  exact isStr_eq (List.all_eq_true.mp usr_all k hk)
theorem win_range : ((List.range 256).all fun o => decide (0 ≤ win o ∧ win o ≤ 65535)) = true := by decide +kernel
theorem usr_range : ((List.range 256).all fun o => decide (0 ≤ usr o ∧ usr o ≤ 65535)) = true := by decide +kernel
theorem win_in {o : Int} (h0 : 0 ≤ o) (h1 : o < 256) : 0 ≤ win o ∧ win o ≤ 65535 := by
  obtain ⟨k, rfl, hk⟩ := byte_nat h0 h1
  simpa using List.all_eq_true.mp win_range k hk
theorem usr_in {o : Int} (h0 : 0 ≤ o) (h1 : o < 256) : 0 ≤ usr o ∧ usr o ≤ 65535 := by
  obtain ⟨k, rfl, hk⟩ := byte_nat h0 h1
  simpa using List.all_eq_true.mp usr_range k hk

/-- a comprehension over ints -/
theorem compL_ints {f : D → Option D} {g : Int → D} (hs : ∀ x, scalar (g x) = true) : ∀ (l : List Int), (∀ x ∈ l, f (.int x) = some (g x)) → compL f (l.map .int) = some (l.map g)
  | [], _ => rfl
  | x :: l, h => by
    have ih := compL_ints hs l fun y hy => h y (List.mem_cons_of_mem _ hy)
    simp only [List.map_cons, compL, h x List.mem_cons_self, hs x, if_true, ih]
theorem strs_of (l : List Int) (g : Int → Nat) : l.map (fun x => D.str [g x]) = cps (l.map g) := by simp [cps]

noncomputable def nameU8 : List Nat := [85, 84, 70, 45, 56]
noncomputable def nameBE : List Nat := [85, 84, 70, 45, 49, 54, 66, 69]
noncomputable def nameLE : List Nat := [85, 84, 70, 45, 49, 54, 76, 69]
noncomputable def nameWin : List Nat := [119, 105, 110, 100, 111, 119, 115, 45, 49, 50, 53, 50]
noncomputable def nameUsr : List Nat := [120, 45, 117, 115, 101, 114, 45, 100, 101, 102, 105, 110, 101, 100]

section
variable {F : FTab} {wf : Nat} {d d' : D} {nm x : List Nat} {b : List XS} {r : List XS}
theorem skip_name (h : nm ≠ x) : exX F wf [.val d, .val (.str nm)] (.ite (.cmp (.var 1) [.eq] [.str x]) b []) = some (.next [.val d, .val (.str nm)]) := by
  refine (s_ite_f (e_cmp1 (e_var rfl) (e_str x) (x := .str nm) ?_)).trans exS_nil
  simp only [evCmp, evEq]
  congr 1
  simpa using h
theorem take_name (h : exS F wf [.val d, .val (.str nm)] b = some (.ret d')) : exX F wf [.val d, .val (.str nm)] (.ite (.cmp (.var 1) [.eq] [.str nm]) b []) = some (.ret d') := by
  refine (s_ite_t (e_cmp1 (e_var rfl) (e_str nm) (x := .str nm) ?_)).trans h
  simp only [evCmp, evEq, beq_self_eq_true]
end

theorem F_decWin {i : Nat} (hi : 6 < i) (l : List Int) (hx : ∀ x ∈ l, 0 ≤ x ∧ x < 256) (hb : l.length ≤ 1000) : Fn 5000 i 6 [.bytes l, .str nameWin] = some (.str (l.map fun x => (win x).toNat)) := by
  refine F_ret hi rfl ?_
  show exS _ _ [.val (.bytes l), .val (.str nameWin)] P_decode = _
  have hlb : l.length ≤ big := by unfold big; omega
  have hc : compL (fun d => evE (Fn 5000 6) [.val (.bytes l), .val (.str nameWin)] (some d) (.prim .chr [.call 0 [.cvar]])) (l.map .int) = some (l.map fun x => .str [(win x).toNat]) := by
    refine compL_ints (fun _ => rfl) l fun x hxl => ?_
    obtain ⟨a0, a1⟩ := hx x hxl
    have w := win_in a0 a1
    exact e_prim (e_args (e_call (e_args e_cvar e_args0) (F_c1 (by omega) a0 a1)) e_args0) (p_chr w.1 (by omega))
  have hj : evE (Fn 5000 6) [.val (.bytes l), .val (.str nameWin)] none (.join (.comp (.prim .chr [.call 0 [.cvar]]) (.var 0))) = some (.str (l.map fun x => (win x).toNat)) := by
    refine e_join (e_comp (e_var rfl) (by simp only [itemsOf]; rw [if_pos hlb]) hc) ?_
    rw [strs_of]
    exact join_cps _ (by rw [List.length_map]; exact hlb)
  refine (exS_next (skip_name (by decide))).trans ((exS_next (skip_name (by decide))).trans ((exS_next (skip_name (by decide))).trans (exS_ret (take_name ?_))))
  exact exS_ret (s_ret hj)

theorem F_decUsr {i : Nat} (hi : 6 < i) (l : List Int) (hx : ∀ x ∈ l, 0 ≤ x ∧ x < 256) (hb : l.length ≤ 1000) : Fn 5000 i 6 [.bytes l, .str nameUsr] = some (.str (l.map fun x => (usr x).toNat)) := by
  refine F_ret hi rfl ?_
  show exS _ _ [.val (.bytes l), .val (.str nameUsr)] P_decode = _
  have hlb : l.length ≤ big := by unfold big; omega
  have hc : compL (fun d => evE (Fn 5000 6) [.val (.bytes l), .val (.str nameUsr)] (some d) (.call 5 [.cvar])) (l.map .int) = some (l.map fun x => .str [(usr x).toNat]) := by
    refine compL_ints (fun _ => rfl) l fun x hxl => ?_
    obtain ⟨a0, a1⟩ := hx x hxl
    exact e_call (e_args e_cvar e_args0) (F_usr (by omega) a0 a1)
  have hj : evE (Fn 5000 6) [.val (.bytes l), .val (.str nameUsr)] none (.join (.comp (.call 5 [.cvar]) (.var 0))) = some (.str (l.map fun x => (usr x).toNat)) := by
    refine e_join (e_comp (e_var rfl) (by simp only [itemsOf]; rw [if_pos hlb]) hc) ?_
    rw [strs_of]
    exact join_cps _ (by rw [List.length_map]; exact hlb)
  refine (exS_next (skip_name (by decide))).trans ((exS_next (skip_name (by decide))).trans ((exS_next (skip_name (by decide))).trans ((exS_next (skip_name (by decide))).trans (exS_ret (take_name ?_)))))
  exact exS_ret (s_ret hj)

/-- cuts of bytes compared -/
theorem cut_bytes {F : FTab} {l : List Int} {n : Nat} {mark : List Int} {s1 : Slot} (hb : l.length ≤ big) (hm : mark.all (fun n => decide (0 ≤ n) && decide (n < 256)) = true) :
    evE F [.val (.bytes l), s1] none (.cmp (.cut (.var 0) (.int 0) (.int n)) [.eq] [.bytes mark]) = some (.bool (l.take n == mark)) := by
  refine e_cmp1 (x := .bytes (l.take n)) (y := .bytes mark) (e_cut (x := .bytes l) (e_var rfl) (e_int 0) (e_int n) ?_) ?_ ?_
  · simp only [evCut, cutL, Option.getD_some]
    rw [if_pos ⟨by omega, by omega, hb⟩]
    simp
  · rw [evE, if_pos hm]
  · simp only [evCmp, evEq]

theorem F_dec8 {i : Nat} (hi : 6 < i) (l : List Int) (hx : ∀ x ∈ l, 0 ≤ x) (hb : l.length ≤ 1000) : Fn 5000 i 6 [.bytes l, .str nameU8] = some (.str (m8 0 0 128 191 (bom8 l))) := by
  refine F_ret hi rfl ?_
  show exS _ _ [.val (.bytes l), .val (.str nameU8)] P_decode = _
  have hlb : l.length ≤ big := by unfold big; omega
  refine exS_ret (take_name ?_)
  have ht := cut_bytes (F := Fn 5000 6) (n := 3) (mark := [239, 187, 191]) (s1 := .val (.str nameU8)) hlb (by decide)
  unfold bom8
  by_cases q : l.take 3 = [239, 187, 191]
  · rw [if_pos q]
    rw [q] at ht
    refine exS_ret ((s_ite_t ht).trans (exS_ret (s_ret (e_call (e_args (e_from (x := .bytes l) (e_var rfl) (e_int 3) ?_) e_args0) (F_utf8 (by omega) (l.drop 3) (fun x hx' => hx x (List.mem_of_mem_drop hx')) (by rw [List.length_drop]; omega))))))
    simp only [evCut, cutL, Option.getD_some, Option.getD_none]
    rw [if_pos ⟨by omega, by omega, hlb⟩]
    rfl
  · rw [if_neg q]
    have e : (l.take 3 == [239, 187, 191]) = false := by simpa using q
    rw [e] at ht
    refine (exS_next ((s_ite_f ht).trans exS_nil)).trans (exS_ret (s_ret (e_call (e_args (e_var rfl) e_args0) (F_utf8 (by omega) l hx hb))))
end Mine

namespace Mine
open PySem PySem.W PySem.Calls PyProof.Rows PySem.SeqAt

noncomputable abbrev isLead (u : Int) : Prop := 55296 ≤ u ∧ u ≤ 56319
noncomputable abbrev isTrail (u : Int) : Prop := 56320 ≤ u ∧ u ≤ 57343
noncomputable def comb (p u : Int) : Nat := (65536 + (p - 55296) * 1024 + u - 56320).toNat
/-- the machine of decode_utf16 -/
noncomputable def fw (odd : Bool) : Int → List Int → List Nat
  | lead, [] => if 0 < lead ∨ odd = true then [65533] else []
  | lead, u :: r => if 0 < lead ∧ isTrail u then comb lead u :: fw odd 0 r
    else (if 0 < lead then [65533] else []) ++ (if isLead u then fw odd u r else (if isTrail u then 65533 else u.toNat) :: fw odd 0 r)

noncomputable def σ16 (o b : D) (out : List Nat) (lead : Int) (s4 s5 s6 : Slot) : List Slot := [.val o, .val b, .own (cps out), .val (.int lead), s4, s5, s6]
noncomputable def R16 : List XS := [
    .assign 6 (.land [.cmp (.var 5) [.ge] [.int 56320], .cmp (.var 5) [.le] [.int 57343]]),
    .ite (.land [.cmp (.var 3) [.gt] [.int 0], .var 6]) [
      .append 2 (.prim .chr [.bin .sub (.bin .add (.bin .add (.int 65536) (.bin .shl (.bin .sub (.var 3) (.int 55296)) (.int 10))) (.var 5)) (.int 56320)]),
      .assign 3 (.int 0),
      .cont] [
],
    .ite (.cmp (.var 3) [.gt] [.int 0]) [
      .append 2 (.str [65533]),
      .assign 3 (.int 0)] [
],
    .ite (.land [.cmp (.var 5) [.ge] [.int 55296], .cmp (.var 5) [.le] [.int 56319]]) [
      .assign 3 (.var 5)] [
      .ite (.var 6) [
        .append 2 (.str [65533])] [
        .append 2 (.prim .chr [.var 5])]]]
noncomputable def H16 : List XS := [
    .assign 5 (.bin .add (.item (.var 0) (.var 4)) (.bin .shl (.item (.var 0) (.bin .add (.var 4) (.int 1))) (.int 8))),
    .ite (.var 1) [
      .assign 5 (.bin .add (.bin .shl (.item (.var 0) (.var 4)) (.int 8)) (.item (.var 0) (.bin .add (.var 4) (.int 1))))] [
]]
noncomputable def T16 : List XS := [
  .ite (.lor [.cmp (.var 3) [.gt] [.int 0], .cmp (.bin .mod (.prim .len [.var 0]) (.int 2)) [.eq] [.int 1]]) [
    .append 2 (.str [65533])] [
],
  .freeze 2,
  .ret (.join (.var 2))]
theorem P4_eq : P_decode_utf16 = .newl 2 :: .assign 3 (.int 0) :: .for_ (.one 4) (.prim .range [.int 0, .bin .sub (.prim .len [.var 0]) (.int 1), .int 2]) (H16 ++ R16) :: T16 := rfl

noncomputable def lead0 (lead : Int) : Prop := lead = 0 ∨ isLead lead
/-- what a turn leaves -/
noncomputable def out16 (lead u : Int) (out : List Nat) : List Nat × Int :=
  if 0 < lead ∧ isTrail u then (out ++ [comb lead u], 0)
  else if isLead u then (out ++ (if 0 < lead then [65533] else []), u)
  else (out ++ (if 0 < lead then [65533] else []) ++ [if isTrail u then 65533 else u.toNat], 0)

section
variable {F : FTab} {wf : Nat} {o b : D} {out : List Nat} {lead u : Int} {s4 s5 s6 : Slot}
theorem app16 {v : Nat} (hb : out.length + 1 ≤ big) : evAppend (σ16 o b out lead s4 s5 s6) 2 [.str [v]] = some (σ16 o b (out ++ [v]) lead s4 s5 s6) := by
  show (if (cps out).length + 1 ≤ big then _ else _) = _
  rw [if_pos (by rw [cps_len]; exact hb)]
  show some [.val o, .val b, .own (cps out ++ cps [v]), .val (.int lead), s4, s5, s6] = _
  rw [← cps_app]
  rfl
theorem exS_stop {σ σ' : List Slot} {x : XS} {xs : List XS} (h : exX F wf σ x = some (.cont σ')) : exS F wf σ (x :: xs) = some (.cont σ') := by rw [exS, h]
theorem gt_lead : evE F (σ16 o b out lead s4 s5 s6) none (.cmp (.var 3) [.gt] [.int 0]) = some (.bool (decide (0 < lead))) := e_gt (e_var rfl) (e_int 0)
theorem lead_pos (h : isLead lead) : 0 < lead := Int.lt_of_lt_of_le (by decide) h.1
theorem lead_not (h : lead0 lead) (h' : ¬ 0 < lead) : lead = 0 := h.elim id fun q => absurd (lead_pos q) h'
theorem lead_is (h : lead0 lead) (h' : 0 < lead) : isLead lead := h.elim (fun q => absurd h' (by rw [q]; decide)) id
theorem comb_ok (h : isLead lead) (t : isTrail u) : (0 ≤ lead - 55296 ∧ lead - 55296 < 1073741824) ∧ 0 ≤ 65536 + (lead - 55296) * 1024 + u - 56320 ∧ 65536 + (lead - 55296) * 1024 + u - 56320 ≤ 1114111 := by
  unfold isLead at h; unfold isTrail at t; omega
theorem not_lead_trail (t : isTrail u) : ¬ isLead u := by unfold isLead; unfold isTrail at t; omega
/-- a lead that stands alone -/
theorem alone16 (h : lead0 lead) (hb : out.length + 1 ≤ big) :
    exX F wf (σ16 o b out lead s4 s5 s6) (.ite (.cmp (.var 3) [.gt] [.int 0]) [.append 2 (.str [65533]), .assign 3 (.int 0)] []) = some (.next (σ16 o b (out ++ if 0 < lead then [65533] else []) 0 s4 s5 s6)) := by
  have g := gt_lead (F := F) (o := o) (b := b) (out := out) (lead := lead) (s4 := s4) (s5 := s5) (s6 := s6)
  by_cases q : 0 < lead
  · rw [decide_eq_true q] at g
    rw [if_pos q]
    exact (s_ite_t g).trans ((exS_next (s_append (e_str _) (app16 hb))).trans (exS_one.trans (s_assign (e_int 0))))
  · rw [decide_eq_false q] at g
    obtain rfl := lead_not h q
    rw [if_neg q, List.append_nil]
    exact (s_ite_f g).trans exS_nil
theorem last16 (h0 : 0 ≤ u) (h1 : u ≤ 65535) (hb : out.length + 1 ≤ big) :
    exX F wf (σ16 o b out 0 s4 (.val (.int u)) (.val (.bool (decide (isTrail u))))) (.ite (.land [.cmp (.var 5) [.ge] [.int 55296], .cmp (.var 5) [.le] [.int 56319]]) [.assign 3 (.var 5)] [.ite (.var 6) [.append 2 (.str [65533])] [.append 2 (.prim .chr [.var 5])]]) =
      some (.next (if isLead u then σ16 o b out u s4 (.val (.int u)) (.val (.bool (decide (isTrail u)))) else σ16 o b (out ++ [if isTrail u then 65533 else u.toNat]) 0 s4 (.val (.int u)) (.val (.bool (decide (isTrail u)))))) := by
  have g : evE F (σ16 o b out 0 s4 (.val (.int u)) (.val (.bool (decide (isTrail u))))) none (.land [.cmp (.var 5) [.ge] [.int 55296], .cmp (.var 5) [.le] [.int 56319]]) = some (.bool (decide (isLead u))) := e_in (e_var rfl) (e_int _) (e_int _)
  by_cases q : isLead u
  · rw [decide_eq_true q] at g
    rw [if_pos q]
    exact (s_ite_t g).trans (exS_one.trans (s_assign (e_var rfl)))
  · rw [decide_eq_false q] at g
    rw [if_neg q]
    refine (s_ite_f g).trans (exS_one.trans ?_)
    have g2 : evE F (σ16 o b out 0 s4 (.val (.int u)) (.val (.bool (decide (isTrail u))))) none (.var 6) = some (.bool (decide (isTrail u))) := e_var rfl
    by_cases t : isTrail u
    · rw [if_pos t]
      rw [decide_eq_true t] at *
      exact (s_ite_t g2).trans (exS_one.trans (s_append (e_str _) (app16 hb)))
    · rw [if_neg t]
      rw [decide_eq_false t] at *
      exact (s_ite_f g2).trans (exS_one.trans (s_append (e_prim (e_args (e_var rfl) e_args0) (p_chr h0 (Int.le_trans h1 (by decide)))) (app16 hb)))
end

theorem step16 {F : FTab} {wf : Nat} {o b : D} {out : List Nat} {lead u : Int} {s4 s6 : Slot} (hl : lead0 lead) (h0 : 0 ≤ u) (h1 : u ≤ 65535) (hb : out.length + 2 ≤ big) :
    ∃ s6', exS F wf (σ16 o b out lead s4 (.val (.int u)) s6) R16 = some (.next (σ16 o b (out16 lead u out).1 (out16 lead u out).2 s4 (.val (.int u)) s6')) ∨
      exS F wf (σ16 o b out lead s4 (.val (.int u)) s6) R16 = some (.cont (σ16 o b (out16 lead u out).1 (out16 lead u out).2 s4 (.val (.int u)) s6')) := by
  have hb1 : out.length + 1 ≤ big := Nat.le_trans (Nat.le_succ _) hb
  refine ⟨.val (.bool (decide (isTrail u))), ?_⟩
  have first : exX F wf (σ16 o b out lead s4 (.val (.int u)) s6) (.assign 6 (.land [.cmp (.var 5) [.ge] [.int 56320], .cmp (.var 5) [.le] [.int 57343]])) = some (.next (σ16 o b out lead s4 (.val (.int u)) (.val (.bool (decide (isTrail u)))))) :=
    s_assign (e_in (e_var rfl) (e_int _) (e_int _))
  have test : evE F (σ16 o b out lead s4 (.val (.int u)) (.val (.bool (decide (isTrail u))))) none (.land [.cmp (.var 3) [.gt] [.int 0], .var 6]) = some (.bool (decide (0 < lead ∧ isTrail u))) := by
    exact (e_and2 gt_lead fun _ => e_var (d := .bool (decide (isTrail u))) rfl).trans (congrArg (fun v => some (D.bool v)) (Bool.decide_and (0 < lead) (isTrail u)).symm)
  unfold out16
  by_cases q : 0 < lead ∧ isTrail u
  · right
    rw [decide_eq_true q] at test
    rw [if_pos q]
    have k := comb_ok (lead_is hl q.1) q.2
    have hsh : evBin .shl (.int (lead - 55296)) (.int 10) = some (.int ((lead - 55296) * 1024)) := if_pos ⟨by decide, by decide, k.1⟩
    refine (exS_next first).trans (exS_stop ((s_ite_t test).trans ?_))
    refine (exS_next (s_append (e_prim (e_args (e_sub (e_add (e_add (e_int _) (e_bin (e_sub (e_var rfl) (e_int _)) (e_int _) hsh)) (e_var rfl)) (e_int _)) e_args0) (p_chr k.2.1 k.2.2)) (app16 hb1))).trans ?_
    exact (exS_next (s_assign (e_int 0))).trans (exS_one.trans rfl)
  · left
    rw [decide_eq_false q] at test
    rw [if_neg q]
    refine (exS_next first).trans ((exS_next ((s_ite_f test).trans exS_nil)).trans ((exS_next (alone16 hl hb1)).trans (exS_one.trans ?_)))
    have hb2 : (out ++ if 0 < lead then [65533] else []).length + 1 ≤ big := by
      rw [List.length_append]
      by_cases hn : 0 < lead
      · rw [if_pos hn]; exact hb
      · rw [if_neg hn]; exact hb1
    rw [last16 h0 h1 hb2]
    by_cases t : isLead u
    · rw [if_pos t, if_pos t]
    · rw [if_neg t, if_neg t]

theorem out16_ok {lead u : Int} {out : List Nat} (hl : lead0 lead) : lead0 (out16 lead u out).2 ∧ (out16 lead u out).1.length ≤ out.length + 2 := by
  unfold out16
  split
  · exact ⟨.inl rfl, by simp⟩
  · split
    · rename_i h
      exact ⟨.inr h, by simp only [List.length_append]; split <;> simp⟩
    · exact ⟨.inl rfl, by simp only [List.length_append, List.length_cons, List.length_nil]; split <;> simp⟩
theorem fw_out {odd : Bool} {lead u : Int} {r : List Int} {out : List Nat} : (out16 lead u out).1 ++ fw odd (out16 lead u out).2 r = out ++ fw odd lead (u :: r) := by
  rw [fw]
  unfold out16
  split
  · simp
  · split
    · simp
    · simp
end Mine

namespace Mine
open PySem PySem.W PySem.Calls PyProof.Rows PySem.SeqAt

theorem fits {a : Int} (h : -1000000 ≤ a) (h' : a ≤ 10000000) : Builtin.Range.rangeFitsLong a = true := by
  unfold Builtin.Range.rangeFitsLong
  simp
  omega
/-- ranges of small bounds -/
theorem rangeOk_small {a b c : Int} (ha : -1000000 ≤ a ∧ a ≤ 1000000) (hb : -1000000 ≤ b ∧ b ≤ 1000000) (hc : c = 1 ∨ c = 2 ∨ c = -1) : rangeOk a b c = true := by
  have hs : 0 ≤ Builtin.Range.rangeSize a b c ∧ Builtin.Range.rangeSize a b c ≤ 2000001 := by
    unfold Builtin.Range.rangeSize
    rcases hc with rfl | rfl | rfl
    · rw [if_pos (by omega)]; split <;> omega
    · rw [if_pos (by omega)]; split <;> omega
    · rw [if_neg (by omega), show -(-1 : Int) = 1 from rfl, Int.ediv_one]; split <;> omega
  unfold rangeOk rangeNum Builtin.Range.small
  simp only [Bool.and_eq_true, Bool.or_eq_true, decide_eq_true_eq]
  refine ⟨⟨⟨⟨⟨⟨fits (by omega) (by omega), fits (by omega) (by omega)⟩, fits (by omega) (by omega)⟩, fits (by omega) (by omega)⟩, .inr ?_⟩, hs.1⟩, ?_⟩
  · split <;> exact fits (by omega) (by omega)
  · have : big = 16777216 := rfl
    omega
theorem items_range {a b c : Int} {n : Nat} (h : rangeOk a b c = true) (hn : rangeNum a b c = n) : itemsOf (.range a b c) = some ((List.range n).map fun i : Nat => .int (a + (i : Int) * c)) := by
  simp only [itemsOf]
  rw [if_pos h]
  unfold rangeList
  rw [hn, List.map_map]
  rfl

noncomputable def oct16 (be : Bool) (u : Int) : List Int := if be then [u / 256, u % 256] else [u % 256, u / 256]
theorem oct16_at (be : Bool) : ∀ (us odd : List Int) (k : Nat) (u : Int), us[k]? = some u →
    (us.flatMap (oct16 be) ++ odd)[2 * k]? = some (if be then u / 256 else u % 256) ∧ (us.flatMap (oct16 be) ++ odd)[2 * k + 1]? = some (if be then u % 256 else u / 256)
  | [], _, _, _, h => by simp at h
  | v :: us, odd, 0, u, h => by
    simp only [List.getElem?_cons_zero, Option.some.injEq] at h
    subst h
    cases be <;> simp [oct16]
  | v :: us, odd, k + 1, u, h => by
    simp only [List.getElem?_cons_succ] at h
    have ih := oct16_at be us odd k u h
    have e : (v :: us).flatMap (oct16 be) ++ odd = (oct16 be v)[0]! :: (oct16 be v)[1]! :: (us.flatMap (oct16 be) ++ odd) := by cases be <;> simp [oct16]
    rw [e, show 2 * (k + 1) = 2 * k + 1 + 1 by omega]
    simp only [List.getElem?_cons_succ]
    exact ih
theorem oct16_len (be : Bool) (us : List Int) : (us.flatMap (oct16 be)).length = 2 * us.length := by
  induction us with
  | nil => rfl
  | cons u us ih => rw [List.flatMap_cons, List.length_append, ih, List.length_cons]; cases be <;> simp [oct16] <;> omega

section
variable {F : FTab} {wf : Nat} {be : Bool} {us odd : List Int}

theorem head16 {out : List Nat} {lead u : Int} {k : Nat} {s5 s6 : Slot} (hu : us[k]? = some u) (h0 : 0 ≤ u) (h1 : u ≤ 65535) (hb : us.length ≤ 100) (ho : odd.length ≤ 1) :
    exS F wf (σ16 (.bytes (us.flatMap (oct16 be) ++ odd)) (.bool be) out lead (.val (.int ((0 : Int) + (k : Int) * 2))) s5 s6) H16 =
      some (.next (σ16 (.bytes (us.flatMap (oct16 be) ++ odd)) (.bool be) out lead (.val (.int ((0 : Int) + (k : Int) * 2))) (.val (.int u)) s6)) := by
  obtain ⟨g0, g1⟩ := oct16_at be us odd k u hu
  have hlen : (us.flatMap (oct16 be) ++ odd).length ≤ big := by rw [List.length_append, oct16_len]; unfold big; omega
  generalize us.flatMap (oct16 be) ++ odd = l at *
  have k0 : (0 : Int) + (k : Int) * 2 = ((2 * k : Nat) : Int) := by omega
  have k1 : (0 : Int) + (k : Int) * 2 + 1 = ((2 * k + 1 : Nat) : Int) := by omega
  have i0 : ∀ s5, evE F (σ16 (.bytes l) (.bool be) out lead (.val (.int ((0 : Int) + (k : Int) * 2))) s5 s6) none (.item (.var 0) (.var 4)) = some (.int (if be then u / 256 else u % 256)) := fun s5 =>
    e_item (x := .bytes l) (e_var rfl) (e_var rfl) (i_bytes k0 hlen g0)
  have i1 : ∀ s5, evE F (σ16 (.bytes l) (.bool be) out lead (.val (.int ((0 : Int) + (k : Int) * 2))) s5 s6) none (.item (.var 0) (.bin .add (.var 4) (.int 1))) = some (.int (if be then u % 256 else u / 256)) := fun s5 =>
    e_item (x := .bytes l) (e_var rfl) (e_add (e_var rfl) (e_int 1)) (i_bytes k1 hlen g1)
  have sh : ∀ {σ : List Slot} {a : Mine.X} {x : Int}, evE F σ none a = some (.int x) → 0 ≤ x → x < 65536 → evE F σ none (.bin .shl a (.int 8)) = some (.int (x * 256)) := fun {σ a x} h a0 a1 => by
    refine e_bin h (e_int 8) ?_
    simp only [evBin]
    rw [if_pos (by omega)]
    rfl
  cases be with
  | true =>
    simp only [if_true] at i0 i1
    refine exS_cons (s_assign (e_add (i0 s5) (sh (i1 s5) (by omega) (by omega)))) ?_
    rw [exS_one]
    refine (s_ite_t (e_var rfl)).trans ?_
    rw [exS_one]
    refine (s_assign (e_add (sh (i0 _) (by omega) (by omega)) (i1 _))).trans ?_
    rw [show u / 256 * 256 + u % 256 = u by omega]
    rfl
  | false =>
    simp only [Bool.false_eq_true, if_false] at i0 i1
    refine exS_cons (s_assign (e_add (i0 s5) (sh (i1 s5) (by omega) (by omega)))) ?_
    rw [exS_one]
    refine (s_ite_f (e_var rfl)).trans ?_
    rw [exS_nil, show u % 256 + u / 256 * 256 = u by omega]
    rfl

theorem tail16 {out : List Nat} {lead : Int} {s4 s5 s6 : Slot} (hl : lead0 lead) (hb : us.length ≤ 100) (ho : odd.length ≤ 1) (hout : out.length ≤ 1000) :
    exS F wf (σ16 (.bytes (us.flatMap (oct16 be) ++ odd)) (.bool be) out lead s4 s5 s6) T16 = some (.ret (.str (out ++ fw (odd.length == 1) lead []))) := by
  have hlen : (us.flatMap (oct16 be) ++ odd).length = 2 * us.length + odd.length := by rw [List.length_append, oct16_len]
  generalize us.flatMap (oct16 be) ++ odd = l at *
  have hlb : l.length ≤ big := by unfold big; omega
  have hc1 : (cps out).length + 1 ≤ big := by simp only [cps, List.length_map]; unfold big; omega
  have t1 : evE F (σ16 (.bytes l) (.bool be) out lead s4 s5 s6) none (.lor [.cmp (.var 3) [.gt] [.int 0], .cmp (.bin .mod (.prim .len [.var 0]) (.int 2)) [.eq] [.int 1]]) = some (.bool (decide (0 < lead) || decide ((l.length : Int) % 2 = 1))) :=
    e_or2 (e_gt (e_var rfl) (e_int 0)) fun _ => e_eqi (e_mod (e_prim (e_args (e_var rfl) e_args0) (p_lenB hlb)) (e_int 2) (by decide)) (e_int 1)
  have hodd : decide ((l.length : Int) % 2 = 1) = (odd.length == 1) := by
    rw [Bool.eq_iff_iff]
    simp only [decide_eq_true_eq, beq_iff_eq]
    omega
  rw [hodd] at t1
  rw [fw]
  by_cases q : 0 < lead ∨ (odd.length == 1) = true
  · have e : (decide (0 < lead) || (odd.length == 1)) = true := by
      rcases q with q | q
      · simp [q]
      · simp [q]
    rw [e] at t1
    rw [if_pos q]
    refine exS_cons ((s_ite_t t1).trans (exS_one.trans (s_append (d := .str [65533]) (e_str [65533]) (σ' := [.val (.bytes l), .val (.bool be), .own (cps (out ++ [65533])), .val (.int lead), s4, s5, s6]) ?_))) ?_
    · simp only [evAppend, σ16, List.getElem?_cons_succ, List.getElem?_cons_zero, List.length_cons, List.length_nil]
      rw [if_pos hc1, cps_app, cps_one]
      rfl
    · refine exS_cons (s_freeze rfl) (exS_ret (s_ret (e_join (e_var rfl) (join_cps _ ?_))))
      simp only [List.length_append, List.length_cons, List.length_nil]; unfold big; omega
  · have e : (decide (0 < lead) || (odd.length == 1)) = false := by
      simp only [not_or, Bool.not_eq_true] at q
      simp [q.1, q.2]
    rw [e] at t1
    rw [if_neg q, List.append_nil]
    refine exS_cons ((s_ite_f t1).trans exS_nil) (exS_cons (s_freeze rfl) (exS_ret (s_ret (e_join (e_var rfl) (join_cps _ ?_)))))
    unfold big; omega

theorem fl_next {g : D → List Slot → Option Out} {d : D} {ds : List D} {σ σ' : List Slot} (h : g d σ = some (.next σ')) : forL g (d :: ds) σ = forL g ds σ' := by rw [forL, h]
theorem fl_cont {g : D → List Slot → Option Out} {d : D} {ds : List D} {σ σ' : List Slot} (h : g d σ = some (.cont σ')) : forL g (d :: ds) σ = forL g ds σ' := by rw [forL, h]
theorem fl_ret {g : D → List Slot → Option Out} {d r : D} {ds : List D} {σ : List Slot} (h : g d σ = some (.ret r)) : forL g (d :: ds) σ = some (.ret r) := by rw [forL, h]
noncomputable def turn (F : FTab) (wf : Nat) (t : T) (b : List XS) : D → List Slot → Option Out := fun d σ => match setT t d σ with
      | some σ' => exS F wf σ' b
      | none => none
theorem turn_eq {F : FTab} {wf : Nat} {t : T} {b : List XS} {d : D} {σ σ' : List Slot} (h : setT t d σ = some σ') : turn F wf t b d σ = exS F wf σ' b := by unfold turn; rw [h]
theorem s_forT {F : FTab} {wf : Nat} {σ : List Slot} {t : T} {src : Mine.X} {b : List XS} {d : D} {l : List D} {o : Out} (h1 : evE F σ none src = some d) (h2 : itemsFor t d = some l) (h : forL (turn F wf t b) l σ = some o) : exX F wf σ (.for_ t src b) = some o :=
  s_for h1 h2 h

theorem exS_app' {σ σ' : List Slot} {xs ys : List XS} (h : exS F wf σ xs = some (.next σ')) : exS F wf σ (xs ++ ys) = exS F wf σ' ys := by rw [exS_app (σ := σ), h]

theorem loop16 (hus : ∀ u ∈ us, 0 ≤ u ∧ u ≤ 65535) (hb : us.length ≤ 100) (ho : odd.length ≤ 1) (rs : List Int) : ∀ (k : Nat) (out : List Nat) (lead : Int) (s4 s5 s6 : Slot), us.drop k = rs → lead0 lead → out.length + 2 * rs.length ≤ 500 →
    ∃ out' lead' t4 t5 t6, forL (turn F wf (.one 4) (H16 ++ R16)) ((List.range' k rs.length).map fun i : Nat => .int ((0 : Int) + (i : Int) * 2)) (σ16 (.bytes (us.flatMap (oct16 be) ++ odd)) (.bool be) out lead s4 s5 s6) =
      some (.next (σ16 (.bytes (us.flatMap (oct16 be) ++ odd)) (.bool be) out' lead' t4 t5 t6)) ∧ lead0 lead' ∧ out'.length ≤ 500 ∧ out' ++ fw (odd.length == 1) lead' [] = out ++ fw (odd.length == 1) lead rs := by
  induction rs with
  | nil =>
    intro k out lead s4 s5 s6 hd hl hout
    exact ⟨out, lead, s4, s5, s6, rfl, hl, by simp at hout; omega, rfl⟩
  | cons u rs ih =>
    intro k out lead s4 s5 s6 hd hl hout
    have hk : us[k]? = some u := by
      have := List.getElem?_drop (xs := us) (i := k) (j := 0)
      rw [hd] at this
      simpa using this.symm
    have hd' : us.drop (k + 1) = rs := by rw [← List.drop_drop, hd]; rfl
    obtain ⟨h0, h1⟩ := hus u (List.mem_of_getElem? hk)
    rw [List.length_cons] at hout
    obtain ⟨o1, o2⟩ := out16_ok (u := u) (out := out) hl
    obtain ⟨s6', st⟩ := step16 (F := F) (wf := wf) (o := .bytes (us.flatMap (oct16 be) ++ odd)) (b := .bool be) (out := out) (s4 := .val (.int ((0 : Int) + (k : Int) * 2))) (s6 := s6) hl h0 h1 (by unfold big; omega)
    obtain ⟨out', lead', t4, t5, t6, e, r1, r2, r3⟩ := ih (k + 1) (out16 lead u out).1 (out16 lead u out).2 (.val (.int ((0 : Int) + (k : Int) * 2))) (.val (.int u)) s6' hd' o1 (by omega)
    refine ⟨out', lead', t4, t5, t6, ?_, r1, r2, by rw [r3, fw_out]⟩
    rw [List.length_cons, List.range'_succ, List.map_cons, ← e]
    have hs : setT (.one 4) (.int ((0 : Int) + (k : Int) * 2)) (σ16 (.bytes (us.flatMap (oct16 be) ++ odd)) (.bool be) out lead s4 s5 s6) = some (σ16 (.bytes (us.flatMap (oct16 be) ++ odd)) (.bool be) out lead (.val (.int ((0 : Int) + (k : Int) * 2))) s5 s6) := rfl
    have hh := exS_app' (ys := R16) (head16 (F := F) (wf := wf) (be := be) (odd := odd) (out := out) (lead := lead) (s5 := s5) (s6 := s6) hk h0 h1 hb ho)
    rcases st with st | st
    · exact fl_next ((turn_eq hs).trans (hh.trans st))
    · exact fl_cont ((turn_eq hs).trans (hh.trans st))

theorem F_utf16 {i : Nat} (hi : 4 < i) (hus : ∀ u ∈ us, 0 ≤ u ∧ u ≤ 65535) (hb : us.length ≤ 100) (ho : odd.length ≤ 1) :
    Fn 5000 i 4 [.bytes (us.flatMap (oct16 be) ++ odd), .bool be] = some (.str (fw (odd.length == 1) 0 us)) := by
  refine F_ret hi rfl ?_
  show exS _ _ [.val (.bytes (us.flatMap (oct16 be) ++ odd)), .val (.bool be), .no, .no, .no, .no, .no] P_decode_utf16 = _
  have hlen : (us.flatMap (oct16 be) ++ odd).length = 2 * us.length + odd.length := by rw [List.length_append, oct16_len]
  have hlb : (us.flatMap (oct16 be) ++ odd).length ≤ big := by unfold big; omega
  rw [P4_eq]
  refine exS_cons (σ' := [.val (.bytes (us.flatMap (oct16 be) ++ odd)), .val (.bool be), .own [], .no, .no, .no, .no]) (by simp [exX]) (exS_cons (s_assign (e_int 0)) ?_)
  have hr := rangeOk_small (a := 0) (b := ((us.flatMap (oct16 be) ++ odd).length : Int) - 1) (c := 2) (by omega) (by omega) (.inr (.inl rfl))
  have hn : rangeNum 0 (((us.flatMap (oct16 be) ++ odd).length : Int) - 1) 2 = us.length := by
    unfold rangeNum Builtin.Range.rangeSize
    rw [if_pos (by omega), hlen]
    split <;> omega
  obtain ⟨out', lead', t4, t5, t6, e, r1, r2, r3⟩ := loop16 (F := Fn 5000 4) (wf := 5000) (be := be) (odd := odd) hus hb ho us 0 [] 0 .no .no .no rfl (.inl rfl) (by simp; omega)
  rw [← List.range_eq_range'] at e
  refine exS_cons (s_forT (d := .range 0 (((us.flatMap (oct16 be) ++ odd).length : Int) - 1) 2) ?_ (show itemsFor (.one 4) _ = _ from items_range hr hn) e) ?_
  · refine e_prim (e_args (e_int 0) (e_args (e_sub (e_prim (e_args (e_var rfl) e_args0) (p_lenB hlb)) (e_int 1)) (e_args (e_int 2) e_args0))) ?_
    simp [evPrim]
  · rw [List.nil_append] at r3
    rw [← r3]
    exact tail16 r1 hb ho (by omega)
end
end Mine

namespace Mine
open PySem PySem.W PySem.Calls PyProof.Rows PySem.SeqAt

noncomputable def bom16 (us : List Int) : List Int := if us.take 1 = [65279] then us.drop 1 else us
theorem bom16_len (us : List Int) : (bom16 us).length ≤ us.length := by
  unfold bom16; split <;> simp
theorem bom16_mem {us : List Int} {x : Int} (h : x ∈ bom16 us) : x ∈ us := by
  unfold bom16 at h
  split at h
  · exact List.mem_of_mem_drop h
  · exact h

noncomputable def name16 (be : Bool) : List Nat := if be then nameBE else nameLE
noncomputable def mark16 (be : Bool) : List Int := if be then [254, 255] else [255, 254]
theorem cut16 {be : Bool} {us odd : List Int} (hus : ∀ u ∈ us, 0 ≤ u ∧ u ≤ 65535) (ho : odd.length ≤ 1) : ((us.flatMap (oct16 be) ++ odd).take 2 == mark16 be) = decide (us.take 1 = [65279]) := by
  rw [Bool.eq_iff_iff, beq_iff_eq, decide_eq_true_eq]
  cases us with
  | nil =>
    simp only [List.flatMap_nil, List.nil_append, List.take_nil]
    constructor
    · intro h
      have := congrArg List.length h
      cases be <;> simp [mark16] at this <;> omega
    · intro h; cases h
  | cons u us =>
    have hu := hus u List.mem_cons_self
    cases be
    · simp [oct16, mark16]; omega
    · simp [oct16, mark16]; omega
theorem drop16 {be : Bool} {us odd : List Int} (h : us.take 1 = [65279]) : (us.flatMap (oct16 be) ++ odd).drop 2 = (us.drop 1).flatMap (oct16 be) ++ odd := by
  cases us with
  | nil => cases h
  | cons u us => cases be <;> simp [oct16]

theorem F_dec16 {i : Nat} {be : Bool} {us odd : List Int} (hi : 6 < i) (hus : ∀ u ∈ us, 0 ≤ u ∧ u ≤ 65535) (hb : us.length ≤ 100) (ho : odd.length ≤ 1) :
    Fn 5000 i 6 [.bytes (us.flatMap (oct16 be) ++ odd), .str (name16 be)] = some (.str (fw (odd.length == 1) 0 (bom16 us))) := by
  refine F_ret hi rfl ?_
  show exS _ _ [.val (.bytes (us.flatMap (oct16 be) ++ odd)), .val (.str (name16 be))] P_decode = _
  have hlen : (us.flatMap (oct16 be) ++ odd).length = 2 * us.length + odd.length := by rw [List.length_append, oct16_len]
  have hlb : (us.flatMap (oct16 be) ++ odd).length ≤ big := by unfold big; omega
  have ht := cut_bytes (F := Fn 5000 6) (n := 2) (mark := mark16 be) (s1 := .val (.str (name16 be))) hlb (by cases be <;> decide)
  rw [cut16 hus ho] at ht
  have body : exS (Fn 5000 6) 5000 [.val (.bytes (us.flatMap (oct16 be) ++ odd)), .val (.str (name16 be))] [.ite (.cmp (.cut (.var 0) (.int 0) (.int 2)) [.eq] [.bytes (mark16 be)]) [.ret (.call 4 [.from_ (.var 0) (.int 2), .bool be])] [], .ret (.call 4 [.var 0, .bool be])] =
      some (.ret (.str (fw (odd.length == 1) 0 (bom16 us)))) := by
    unfold bom16
    by_cases q : us.take 1 = [65279]
    · rw [decide_eq_true q] at ht
      rw [if_pos q]
      refine exS_ret ((s_ite_t ht).trans (exS_ret (s_ret (e_call (e_args (e_from (x := .bytes (us.flatMap (oct16 be) ++ odd)) (e_var rfl) (e_int 2) (d := .bytes ((us.drop 1).flatMap (oct16 be) ++ odd)) ?_) (e_args (e_bool be) e_args0))
        (F_utf16 (by omega) (fun u hu => hus u (List.mem_of_mem_drop hu)) (by rw [List.length_drop]; omega) ho)))))
      rw [← drop16 q]
      simp only [evCut, cutL, Option.getD_some, Option.getD_none]
      rw [if_pos ⟨by omega, by omega, hlb⟩]
      rfl
    · rw [decide_eq_false q] at ht
      rw [if_neg q]
      exact (exS_next ((s_ite_f ht).trans exS_nil)).trans (exS_ret (s_ret (e_call (e_args (e_var rfl) (e_args (e_bool be) e_args0)) (F_utf16 (by omega) hus hb ho))))
  cases be with
  | true => exact (exS_next (skip_name (by decide))).trans (exS_ret (take_name body))
  | false => exact (exS_next (skip_name (by decide))).trans ((exS_next (skip_name (by decide))).trans (exS_ret (take_name body)))

/-! the law's reading from the back -/
noncomputable def em : Int → List Int → List Nat
  | _, [] => []
  | lead, u :: r => (out16 lead u []).1 ++ em (out16 lead u []).2 r
noncomputable def pd : Int → List Int → Int
  | lead, [] => lead
  | lead, u :: r => pd (out16 lead u []).2 r
theorem fw_em (odd : Bool) : ∀ (us : List Int) (lead : Int), fw odd lead us = em lead us ++ (if 0 < pd lead us ∨ odd = true then [65533] else [])
  | [], lead => rfl
  | u :: r, lead => by
    have := fw_out (odd := odd) (lead := lead) (u := u) (r := r) (out := [])
    rw [List.nil_append] at this
    rw [← this, fw_em odd r, em, pd, List.append_assoc]
theorem em_snoc (u : Int) : ∀ (vs : List Int) (lead : Int), em lead (vs ++ [u]) = em lead vs ++ (out16 (pd lead vs) u []).1
  | [], lead => by simp [em, pd]
  | v :: vs, lead => by rw [List.cons_append, em, em_snoc u vs, em, pd, List.append_assoc]
theorem pd_snoc (u : Int) : ∀ (vs : List Int) (lead : Int), pd lead (vs ++ [u]) = (out16 (pd lead vs) u []).2
  | [], lead => by simp [pd]
  | v :: vs, lead => by rw [List.cons_append, pd, pd_snoc u vs, pd]
theorem lead_not_trail {u : Int} (h : isLead u) : ¬ isTrail u := by unfold isLead at h; unfold isTrail; omega
theorem out16_two {lead u : Int} {out : List Nat} : (out16 lead u out).2 = if isLead u then u else 0 := by
  unfold out16
  split
  · rename_i h
    rw [if_neg fun q => lead_not_trail q h.2]
  · split
    · rfl
    · rfl
theorem pd_last (u : Int) (vs : List Int) (lead : Int) : pd lead (vs ++ [u]) = if isLead u then u else 0 := by rw [pd_snoc, out16_two]
noncomputable def GG (us : List Int) : List Nat := fw false 0 us
theorem GG_nil : GG [] = [] := by simp [GG, fw]
theorem GG_pair {ws : List Int} {p u : Int} (hp : isLead p) (hu : isTrail u) : GG (ws ++ [p] ++ [u]) = GG ws ++ [comb p u] := by
  have g : 0 < p := by unfold isLead at hp; omega
  unfold GG
  rw [fw_em, fw_em, em_snoc, pd_last, pd_last, if_pos hp, em_snoc, if_neg fun q => lead_not_trail q hu]
  have e1 : (out16 (pd 0 ws) p []).1 = if 0 < pd 0 ws then [65533] else [] := by
    unfold out16
    rw [if_neg fun q => lead_not_trail hp q.2, if_pos hp]
    simp
  have e2 : (out16 p u []).1 = [comb p u] := by
    unfold out16
    rw [if_pos ⟨g, hu⟩]
    simp
  rw [e1, e2]
  simp
noncomputable def one16 (u : Int) : Nat := if 55296 ≤ u ∧ u ≤ 57343 then 65533 else u.toNat
theorem GG_one {vs : List Int} {u : Int} (h : ¬ (isTrail u ∧ 0 < pd 0 vs)) : GG (vs ++ [u]) = GG vs ++ [one16 u] := by
  unfold GG one16
  rw [fw_em, fw_em, em_snoc, pd_last]
  by_cases hl : isLead u
  · have g : 0 < u := by unfold isLead at hl; omega
    have hs : 55296 ≤ u ∧ u ≤ 57343 := by unfold isLead at hl; omega
    have e1 : (out16 (pd 0 vs) u []).1 = if 0 < pd 0 vs then [65533] else [] := by
      unfold out16
      rw [if_neg fun q => lead_not_trail hl q.2, if_pos hl]
      simp
    rw [e1, if_pos hl, if_pos hs]
    simp [g]
  · have e1 : (out16 (pd 0 vs) u []).1 = (if 0 < pd 0 vs then [65533] else []) ++ [if isTrail u then 65533 else u.toNat] := by
      unfold out16
      rw [if_neg fun q => h ⟨q.2, q.1⟩, if_neg hl]
      simp
    rw [e1, if_neg hl]
    have e2 : (if 55296 ≤ u ∧ u ≤ 57343 then 65533 else u.toNat) = if isTrail u then 65533 else u.toNat := by
      have k : (55296 ≤ u ∧ u ≤ 57343) ↔ isTrail u := by unfold isTrail; unfold isLead at hl; omega
      by_cases q : isTrail u
      · rw [if_pos q, if_pos (k.mpr q)]
      · rw [if_neg q, if_neg fun z => q (k.mp z)]
    rw [e2]
    simp
/-- the odd octet -/
theorem fw_odd_lead {vs : List Int} {p : Int} (hp : isLead p) : fw true 0 (vs ++ [p]) = GG vs ++ [65533] := by
  have g : 0 < p := by unfold isLead at hp; omega
  unfold GG
  rw [fw_em, fw_em, em_snoc]
  have e1 : (out16 (pd 0 vs) p []).1 = if 0 < pd 0 vs then [65533] else [] := by
    unfold out16
    rw [if_neg fun q => lead_not_trail hp q.2, if_pos hp]
    simp
  rw [e1]
  simp
theorem fw_odd_else {us : List Int} (h : pd 0 us = 0) : fw true 0 us = GG us ++ [65533] := by
  unfold GG
  rw [fw_em, fw_em, h]
  simp

/-! _law_utf16 -/
noncomputable def σ17 (us : List Int) (odd : Bool) (tx : List Nat) (at' : Int) (z : Slot) : List Slot := [.val (.lst (us.map .int)), .val (.bool odd), .val (.str tx), .val (.int at'), z]
noncomputable def T17 : Mine.X := .cmp (.var 3) [.ge] [.int 0]
noncomputable def B17 : List XS := [
    .assign 4 (.item (.var 0) (.var 3)),
    .ite (.land [.cmp (.int 56320) [.le, .le] [.var 4, .int 57343], .cmp (.var 3) [.gt] [.int 0], .cmp (.int 55296) [.le, .le] [.item (.var 0) (.bin .sub (.var 3) (.int 1)), .int 56319]]) [
      .assign 2 (.bin .add (.prim .chr [.bin .sub (.bin .add (.bin .add (.int 65536) (.bin .mul (.bin .sub (.item (.var 0) (.bin .sub (.var 3) (.int 1))) (.int 55296)) (.int 1024))) (.var 4)) (.int 56320)]) (.var 2)),
      .assign 3 (.bin .sub (.var 3) (.int 2))] [
      .assign 2 (.bin .add (.ife (.cmp (.int 55296) [.le, .le] [.var 4, .int 57343]) (.str [65533]) (.prim .chr [.var 4])) (.var 2)),
      .assign 3 (.bin .sub (.var 3) (.int 1))]]
noncomputable def H17 : List XS := [
  .ite (.cmp (.upto (.var 0) (.int 1)) [.eq] [.lst [.int 65279]]) [
    .assign 0 (.from_ (.var 0) (.int 1))] [
],
  .assign 2 (.str []),
  .assign 3 (.bin .sub (.prim .len [.var 0]) (.int 1)),
  .ite (.var 1) [
    .assign 2 (.str [65533]),
    .ite (.land [.cmp (.var 3) [.ge] [.int 0], .cmp (.int 55296) [.le, .le] [.item (.var 0) (.var 3), .int 56319]]) [
      .assign 3 (.bin .sub (.var 3) (.int 1))] [
]] [
]]
theorem P17_eq : P_law_utf16 = H17 ++ [.while_ T17 B17, .ret (.var 2)] := rfl

theorem pd_zero {us : List Int} (h : ∀ p, us.getLast? = some p → ¬ isLead p) : pd 0 us = 0 := by
  rcases List.eq_nil_or_concat us with rfl | ⟨ws, p, rfl⟩
  · rfl
  · rw [List.concat_eq_append] at *
    rw [pd_last, if_neg (h p (by simp))]
theorem take_snoc {us : List Int} {n : Nat} {u : Int} (h : us[n]? = some u) : us.take (n + 1) = us.take n ++ [u] := by
  rw [List.take_add_one, h]; rfl

section
variable {F : FTab} {wf : Nat} {us : List Int} {odd : Bool}

theorem back16 (hus : ∀ u ∈ us, 0 ≤ u ∧ u ≤ 65535) (hb : us.length ≤ 100) : ∀ (fuel n : Nat) (tx : List Nat) (z : Slot), n < fuel → n ≤ us.length → tx.length + n ≤ 200 →
    ∃ at' z', whileL (fun σ => evE F σ none T17) (fun σ => exS F wf σ B17) fuel (σ17 us odd tx ((n : Int) - 1) z) = some (.next (σ17 us odd (GG (us.take n) ++ tx) at' z')) := by
  intro fuel
  induction fuel with
  | zero => intro n tx z h; omega
  | succ fuel ih =>
    intro n tx z hf hn htx
    have hT : evE F (σ17 us odd tx ((n : Int) - 1) z) none T17 = some (.bool (decide ((0 : Int) ≤ (n : Int) - 1))) := e_ge (e_var rfl) (e_int 0)
    cases n with
    | zero =>
      rw [decide_eq_false (by omega)] at hT
      exact ⟨_, z, (wl_false (t := fun σ => evE F σ none T17) hT).trans (by rw [List.take_zero, GG_nil, List.nil_append])⟩
    | succ n =>
      rw [decide_eq_true (by omega)] at hT
      have hx : us[n]? = some us[n] := List.getElem?_eq_getElem (by omega)
      obtain ⟨u0, u1⟩ := hus us[n] (List.getElem_mem _)
      have hts := take_snoc hx
      generalize us[n] = u at *
      have ec : (((n + 1 : Nat) : Int) - 1) = (n : Int) := by omega
      rw [ec] at hT ⊢
      have hbn : n < big := by unfold big; omega
      have hi : evE F (σ17 us odd tx n z) none (.item (.var 0) (.var 3)) = some (.int u) := e_item (e_var rfl) (e_var rfl) (i_lst (n := n) rfl hbn (by rw [List.getElem?_map, hx]; rfl))
      have s1 : exX F wf (σ17 us odd tx n z) (.assign 4 (.item (.var 0) (.var 3))) = some (.next (σ17 us odd tx n (.val (.int u)))) := s_assign hi
      -- is there a pair
      by_cases hp : isTrail u ∧ ∃ m p, n = m + 1 ∧ us[m]? = some p ∧ isLead p
      · obtain ⟨ht, m, p, rfl, hm, hpl⟩ := hp
        have hc0 : (0 : Int) ≤ 65536 + (p - 55296) * 1024 + u - 56320 := by unfold isLead at hpl; unfold isTrail at ht; omega
        have hc1 : 65536 + (p - 55296) * 1024 + u - 56320 ≤ (1114111 : Int) := by unfold isLead at hpl; unfold isTrail at ht; omega
        have hj : evE F (σ17 us odd tx ((m + 1 : Nat) : Int) (.val (.int u))) none (.item (.var 0) (.bin .sub (.var 3) (.int 1))) = some (.int p) :=
          e_item (e_var rfl) (e_sub (e_var rfl) (e_int 1)) (i_lst (n := m) (by omega) (by unfold big; omega) (by rw [List.getElem?_map, hm]; rfl))
        have ht3 : evE F (σ17 us odd tx ((m + 1 : Nat) : Int) (.val (.int u))) none (.land [.cmp (.int 56320) [.le, .le] [.var 4, .int 57343], .cmp (.var 3) [.gt] [.int 0], .cmp (.int 55296) [.le, .le] [.item (.var 0) (.bin .sub (.var 3) (.int 1)), .int 56319]]) = some (.bool true) := by
          have := e_and3 (F := F) (σ := σ17 us odd tx ((m + 1 : Nat) : Int) (.val (.int u))) (cv := none) (e_lele (e_int 56320) (e_var (i := 4) (d := .int u) rfl) (e_int 57343)) (fun _ => e_gt (e_var (i := 3) (d := .int ((m + 1 : Nat) : Int)) rfl) (e_int 0)) (fun _ _ => e_lele (e_int 55296) hj (e_int 56319))
          rw [this, decide_eq_true (show 56320 ≤ u ∧ u ≤ 57343 from ht), decide_eq_true (show (0 : Int) < ((m + 1 : Nat) : Int) by omega), decide_eq_true (show 55296 ≤ p ∧ p ≤ 56319 from hpl)]
          rfl
        have hB : exS F wf (σ17 us odd tx ((m + 1 : Nat) : Int) z) B17 = some (.next (σ17 us odd ([comb p u] ++ tx) (((m + 1 : Nat) : Int) - 2) (.val (.int u)))) := by
          refine exS_cons s1 ?_
          rw [exS_one]
          refine (s_ite_t ht3).trans ?_
          refine exS_cons (s_assign (d := .str ([comb p u] ++ tx)) (e_cats (i := [comb p u]) (j := tx) (e_prim (e_args (e_sub (e_add (e_add (e_int 65536) (e_mul (e_sub hj (e_int 55296)) (e_int 1024) (by decide))) (e_var rfl)) (e_int 56320)) e_args0) (p_chr hc0 hc1)) (e_var rfl) (by simp only [List.length_cons, List.length_nil]; unfold big; omega))) ?_
          rw [exS_one]
          exact s_assign (e_sub (e_var rfl) (e_int 2))
        have e2 : ((m + 1 : Nat) : Int) - 2 = (m : Int) - 1 := by omega
        rw [e2] at hB
        obtain ⟨at', z', e⟩ := ih m ([comb p u] ++ tx) (.val (.int u)) (by omega) (by omega) (by simp; omega)
        refine ⟨at', z', (wl_next (t := fun σ => evE F σ none T17) (g := fun σ => exS F wf σ B17) hT hB).trans ?_⟩
        rw [e, hts, take_snoc hm, GG_pair hpl ht, List.append_assoc]
      · have hts0 : ¬ (isTrail u ∧ 0 < pd 0 (us.take n)) := fun q => hp ⟨q.1, by
          cases n with
          | zero => simp [pd] at q
          | succ m =>
            have hm : us[m]? = some us[m] := List.getElem?_eq_getElem (by omega)
            refine ⟨m, us[m], rfl, hm, ?_⟩
            have := q.2
            rw [take_snoc hm, pd_last] at this
            by_cases z : isLead us[m]
            · exact z
            · rw [if_neg z] at this; omega⟩
        have ht3 : evE F (σ17 us odd tx (n : Int) (.val (.int u))) none (.land [.cmp (.int 56320) [.le, .le] [.var 4, .int 57343], .cmp (.var 3) [.gt] [.int 0], .cmp (.int 55296) [.le, .le] [.item (.var 0) (.bin .sub (.var 3) (.int 1)), .int 56319]]) = some (.bool false) := by
          by_cases ht : isTrail u
          · cases n with
            | zero =>
              have := e_and3 (F := F) (σ := σ17 us odd tx ((0 : Nat) : Int) (.val (.int u))) (cv := none) (c := .cmp (.int 55296) [.le, .le] [.item (.var 0) (.bin .sub (.var 3) (.int 1)), .int 56319]) (r := false) (e_lele (e_int 56320) (e_var (i := 4) (d := .int u) rfl) (e_int 57343)) (fun _ => e_gt (e_var (i := 3) (d := .int ((0 : Nat) : Int)) rfl) (e_int 0)) (fun _ q => by simp at q)
              rw [this]
              simp
            | succ m =>
              have hm : us[m]? = some us[m] := List.getElem?_eq_getElem (by omega)
              have hj : evE F (σ17 us odd tx ((m + 1 : Nat) : Int) (.val (.int u))) none (.item (.var 0) (.bin .sub (.var 3) (.int 1))) = some (.int us[m]) :=
                e_item (e_var rfl) (e_sub (e_var rfl) (e_int 1)) (i_lst (n := m) (by omega) (by unfold big; omega) (by rw [List.getElem?_map, hm]; rfl))
              have hnl : ¬ (55296 ≤ us[m] ∧ us[m] ≤ 56319) := fun q => hp ⟨ht, m, us[m], rfl, hm, q⟩
              have := e_and3 (F := F) (σ := σ17 us odd tx ((m + 1 : Nat) : Int) (.val (.int u))) (cv := none) (e_lele (e_int 56320) (e_var (i := 4) (d := .int u) rfl) (e_int 57343)) (fun _ => e_gt (e_var (i := 3) (d := .int ((m + 1 : Nat) : Int)) rfl) (e_int 0)) (fun _ _ => e_lele (e_int 55296) hj (e_int 56319))
              rw [this, decide_eq_false hnl]
              simp
          · have := e_and3 (F := F) (σ := σ17 us odd tx (n : Int) (.val (.int u))) (cv := none) (c := .cmp (.int 55296) [.le, .le] [.item (.var 0) (.bin .sub (.var 3) (.int 1)), .int 56319]) (b := .cmp (.var 3) [.gt] [.int 0]) (q := false) (r := false) (e_lele (e_int 56320) (e_var (i := 4) (d := .int u) rfl) (e_int 57343)) (fun q => absurd (of_decide_eq_true q) ht) (fun q _ => absurd (of_decide_eq_true q) ht)
            rw [this]
            simp
        have hone : evE F (σ17 us odd tx (n : Int) (.val (.int u))) none (.ife (.cmp (.int 55296) [.le, .le] [.var 4, .int 57343]) (.str [65533]) (.prim .chr [.var 4])) = some (.str [one16 u]) := by
          have hc := e_lele (F := F) (σ := σ17 us odd tx (n : Int) (.val (.int u))) (cv := none) (e_int 55296) (e_var (i := 4) (d := .int u) rfl) (e_int 57343)
          unfold one16
          by_cases q : 55296 ≤ u ∧ u ≤ 57343
          · rw [decide_eq_true q] at hc
            rw [if_pos q]
            exact e_ife_t hc (e_str [65533])
          · rw [decide_eq_false q] at hc
            rw [if_neg q]
            exact e_ife_f hc (e_prim (e_args (e_var rfl) e_args0) (p_chr u0 (by omega)))
        have hB : exS F wf (σ17 us odd tx (n : Int) z) B17 = some (.next (σ17 us odd ([one16 u] ++ tx) ((n : Int) - 1) (.val (.int u)))) := by
          refine exS_cons s1 ?_
          rw [exS_one]
          refine (s_ite_f ht3).trans ?_
          refine exS_cons (s_assign (d := .str ([one16 u] ++ tx)) (e_cats (i := [one16 u]) (j := tx) hone (e_var rfl) (by simp only [List.length_cons, List.length_nil]; unfold big; omega))) ?_
          rw [exS_one]
          exact s_assign (e_sub (e_var rfl) (e_int 1))
        obtain ⟨at', z', e⟩ := ih n ([one16 u] ++ tx) (.val (.int u)) (by omega) (by omega) (by simp; omega)
        refine ⟨at', z', (wl_next (t := fun σ => evE F σ none T17) (g := fun σ => exS F wf σ B17) hT hB).trans ?_⟩
        rw [e, hts, GG_one hts0, List.append_assoc]
end
end Mine

namespace Mine
open PySem PySem.W PySem.Calls PyProof.Rows PySem.SeqAt

/-- lists of ints compared -/
theorem eq_ints_list {l m : List Int} (h1 : l.length ≤ big) (h2 : m.length ≤ big) : evCmp .eq (.lst (l.map .int)) (.lst (m.map .int)) = some (decide (l = m)) := by
  have hlen : (l.map D.int).length ≤ big ∧ (m.map D.int).length ≤ big := by rw [List.length_map, List.length_map]; exact ⟨h1, h2⟩
  simp only [evCmp, evEq]
  rw [if_pos hlen, intsOf_map, intsOf_map]
  simp only
  congr 1
  rw [Bool.eq_iff_iff]; simp

theorem F_law16 {i : Nat} {us : List Int} {odd : Bool} (hi : 17 < i) (hus : ∀ u ∈ us, 0 ≤ u ∧ u ≤ 65535) (hb : us.length ≤ 100) : Fn 5000 i 17 [.lst (us.map .int), .bool odd] = some (.str (fw odd 0 (bom16 us))) := by
  refine F_ret hi rfl ?_
  show exS _ _ [.val (.lst (us.map .int)), .val (.bool odd), .no, .no, .no] P_law_utf16 = _
  rw [P17_eq]
  have hob : (us.map D.int).length ≤ big := by rw [List.length_map]; unfold big; omega
  have e1 : exX (Fn 5000 17) 5000 [.val (.lst (us.map .int)), .val (.bool odd), .no, .no, .no] (.ite (.cmp (.upto (.var 0) (.int 1)) [.eq] [.lst [.int 65279]]) [.assign 0 (.from_ (.var 0) (.int 1))] []) =
      some (.next [.val (.lst ((bom16 us).map .int)), .val (.bool odd), .no, .no, .no]) := by
    have hup : evE (Fn 5000 17) [.val (.lst (us.map .int)), .val (.bool odd), .no, .no, .no] none (.upto (.var 0) (.int 1)) = some (.lst ((us.take 1).map .int)) := by
      refine e_upto (x := .lst (us.map .int)) (e_var rfl) (e_int 1) ?_
      simp only [evCut, Option.getD_none, Option.getD_some, cutL]
      rw [if_pos ⟨by decide, by decide, hob⟩]
      simp [List.map_take]
    have ht := e_cmp1 hup (e_lst (e_args (e_int 65279) e_args0)) (eq_ints_list (l := us.take 1) (m := [65279]) (by rw [List.length_take]; unfold big; omega) (by decide))
    unfold bom16
    by_cases q : us.take 1 = [65279]
    · rw [decide_eq_true q] at ht
      refine (s_ite_t ht).trans ?_
      rw [exS_one, if_pos q]
      refine (s_assign (d := .lst ((us.drop 1).map .int)) (e_from (x := .lst (us.map .int)) (e_var rfl) (e_int 1) ?_)).trans rfl
      simp only [evCut, Option.getD_none, Option.getD_some, cutL]
      rw [if_pos ⟨by decide, by decide, hob⟩]
      simp [List.map_drop]
    · rw [decide_eq_false q] at ht
      refine (s_ite_f ht).trans ?_
      rw [exS_nil, if_neg q]
  have hb1 : (bom16 us).length ≤ 100 := Nat.le_trans (bom16_len us) hb
  have hu1 : ∀ u ∈ bom16 us, 0 ≤ u ∧ u ≤ 65535 := fun u hu => hus u (bom16_mem hu)
  generalize bom16 us = vs at *
  have hvb : (vs.map D.int).length ≤ big := by rw [List.length_map]; unfold big; omega
  refine exS_cons e1 (exS_cons (s_assign (e_str [])) (exS_cons (s_assign (e_sub (e_prim (e_args (e_var rfl) e_args0) (p_len hvb)) (e_int 1))) ?_))
  rw [List.length_map]
  -- the odd octet
  have hfin : ∀ (n : Nat) (tx : List Nat), n ≤ vs.length → tx.length ≤ 2 → exS (Fn 5000 17) 5000 (σ17 vs odd tx ((n : Int) - 1) .no) [.while_ T17 B17, .ret (.var 2)] = some (.ret (.str (GG (vs.take n) ++ tx))) := fun n tx hn htx => by
    obtain ⟨at', z', e⟩ := back16 (F := Fn 5000 17) (wf := 5000) (odd := odd) hu1 hb1 5000 n tx .no (by omega) hn (by omega)
    exact exS_cons (s_while e) (exS_ret (s_ret (e_var rfl)))
  cases odd with
  | false =>
    refine exS_cons ((s_ite_f (e_var rfl)).trans exS_nil) ?_
    have := hfin vs.length [] (Nat.le_refl _) (by simp)
    rw [List.take_length, List.append_nil] at this
    exact this
  | true =>
    have hge : ∀ tx, evE (Fn 5000 17) (σ17 vs true tx ((vs.length : Int) - 1) .no) none (.cmp (.var 3) [.ge] [.int 0]) = some (.bool (decide ((0 : Int) ≤ (vs.length : Int) - 1))) := fun tx => e_ge (e_var rfl) (e_int 0)
    rcases List.eq_nil_or_concat vs with rfl | ⟨ws, p, hws⟩
    · have hl : evE (Fn 5000 17) (σ17 [] true [65533] ((0 : Nat) - 1 : Int) .no) none (.land [.cmp (.var 3) [.ge] [.int 0], .cmp (.int 55296) [.le, .le] [.item (.var 0) (.var 3), .int 56319]]) = some (.bool false) :=
        e_and_f (e_ge (e_var (d := .int (-1)) rfl) (e_int 0))
      refine exS_cons ((s_ite_t (e_var rfl)).trans (exS_cons (s_assign (e_str [65533])) (exS_one.trans ((s_ite_f hl).trans exS_nil)))) ?_
      have := hfin 0 [65533] (Nat.le_refl _) (by simp)
      rw [List.take_zero, GG_nil] at this
      refine this.trans ?_
      rfl
    · rw [List.concat_eq_append] at hws
      have hn : vs.length = ws.length + 1 := by rw [hws]; simp
      have hp : vs[ws.length]? = some p := by rw [hws]; simp
      have e0 : ((vs.length : Int) - 1) = (ws.length : Int) := by omega
      have hit : evE (Fn 5000 17) (σ17 vs true [65533] ((vs.length : Int) - 1) .no) none (.item (.var 0) (.var 3)) = some (.int p) :=
        e_item (e_var rfl) (e_var rfl) (i_lst (n := ws.length) e0 (by unfold big; omega) (by rw [List.getElem?_map, hp]; rfl))
      have hl := e_and2 (hge [65533]) fun _ => e_lele (e_int 55296) hit (e_int 56319)
      rw [decide_eq_true (show (0 : Int) ≤ (vs.length : Int) - 1 by omega), Bool.true_and] at hl
      by_cases q : isLead p
      · rw [decide_eq_true (show 55296 ≤ p ∧ p ≤ 56319 from q)] at hl
        refine exS_cons ((s_ite_t (e_var rfl)).trans (exS_cons (s_assign (e_str [65533])) (exS_one.trans ((s_ite_t hl).trans (exS_one.trans (s_assign (e_sub (e_var rfl) (e_int 1)))))))) ?_
        have := hfin ws.length [65533] (by omega) (by simp)
        have ht : vs.take ws.length = ws := by rw [hws]; simp
        rw [ht] at this
        rw [show vs = ws ++ [p] from hws, fw_odd_lead q, ← show vs = ws ++ [p] from hws]
        refine Eq.trans ?_ this
        rw [e0]
        rfl
      · rw [decide_eq_false (show ¬ (55296 ≤ p ∧ p ≤ 56319) from q)] at hl
        refine exS_cons ((s_ite_t (e_var rfl)).trans (exS_cons (s_assign (e_str [65533])) (exS_one.trans ((s_ite_f hl).trans exS_nil)))) ?_
        have := hfin vs.length [65533] (Nat.le_refl _) (by simp)
        rw [List.take_length] at this
        rw [fw_odd_else (pd_zero fun p' h' => by
          rw [hws, List.getLast?_append] at h'
          simp at h'
          rw [← h']; exact q)]
        exact this
end Mine

namespace Mine
open PySem PySem.W PySem.Calls PyProof.Rows PySem.SeqAt

section
variable {F : FTab} {σ : List Slot} {cv : Option D} {a b : Mine.X} {x y : Int}
theorem e_shr6 (ha : evE F σ cv a = some (.int x)) : evE F σ cv (.bin .shr a (.int 6)) = some (.int (x / 64)) := e_bin ha (e_int 6) (by simp only [evBin]; rw [if_pos (by omega)]; rfl)
theorem e_shr12 (ha : evE F σ cv a = some (.int x)) : evE F σ cv (.bin .shr a (.int 12)) = some (.int (x / 4096)) := e_bin ha (e_int 12) (by simp only [evBin]; rw [if_pos (by omega)]; rfl)
theorem e_shr18 (ha : evE F σ cv a = some (.int x)) : evE F σ cv (.bin .shr a (.int 18)) = some (.int (x / 262144)) := e_bin ha (e_int 18) (by simp only [evBin]; rw [if_pos (by omega)]; rfl)
theorem e_and63 (h0 : 0 ≤ x) (ha : evE F σ cv a = some (.int x)) : evE F σ cv (.bin .band a (.int 63)) = some (.int (x % 64)) := e_bin ha (e_int 63) (by simp only [evBin]; rw [band63 h0])
theorem e_or128 (h : 0 ≤ y ∧ y < 64) (hb : evE F σ cv b = some (.int y)) : evE F σ cv (.bin .bor (.int 128) b) = some (.int (128 + y)) := e_bin (e_int 128) hb (by simp only [evBin]; rw [bor_128 h.1 h.2])
theorem e_or192 (h : 0 ≤ y ∧ y < 64) (hb : evE F σ cv b = some (.int y)) : evE F σ cv (.bin .bor (.int 192) b) = some (.int (192 + y)) := e_bin (e_int 192) hb (by simp only [evBin]; rw [bor_192 h.1 h.2])
theorem e_or224 (h : 0 ≤ y ∧ y < 16) (hb : evE F σ cv b = some (.int y)) : evE F σ cv (.bin .bor (.int 224) b) = some (.int (224 + y)) := e_bin (e_int 224) hb (by simp only [evBin]; rw [bor_224 h.1 h.2])
theorem e_or240 (h : 0 ≤ y ∧ y < 8) (hb : evE F σ cv b = some (.int y)) : evE F σ cv (.bin .bor (.int 240) b) = some (.int (240 + y)) := e_bin (e_int 240) hb (by simp only [evBin]; rw [bor_240 h.1 h.2])
end

noncomputable def u8S (c : Int) : List Int :=
  if c < 128 then [c]
  else if c < 2048 then [192 + c / 64, 128 + c % 64]
  else if c < 65536 then [224 + c / 4096, 128 + c / 64 % 64, 128 + c % 64]
  else [240 + c / 262144, 128 + c / 4096 % 64, 128 + c / 64 % 64, 128 + c % 64]

theorem F_u8 {i : Nat} (hi : 7 < i) {c : Int} (h0 : 0 ≤ c) (h1 : c ≤ 1114111) : Fn 5000 i 7 [.int c] = some (.lst ((u8S c).map .int)) := by
  refine F_ret hi rfl ?_
  show exS _ _ [.val (.int c)] P_utf8_octets = _
  have v : evE (Fn 5000 7) [.val (.int c)] none (.var 0) = some (.int c) := e_var rfl
  have t : ∀ n : Int, evE (Fn 5000 7) [.val (.int c)] none (.cmp (.var 0) [.lt] [.int n]) = some (.bool (decide (c < n))) := fun n => e_lt v (e_int n)
  have no : ∀ {n : Int} {b : List XS}, ¬ c < n → exX (Fn 5000 7) 5000 [.val (.int c)] (.ite (.cmp (.var 0) [.lt] [.int n]) b []) = some (.next [.val (.int c)]) := fun {n b} h => (s_ite_f (by rw [t, decide_eq_false h])).trans exS_nil
  have yes : ∀ {n : Int} {b : List XS} {d : D}, c < n → exS (Fn 5000 7) 5000 [.val (.int c)] b = some (.ret d) → exX (Fn 5000 7) 5000 [.val (.int c)] (.ite (.cmp (.var 0) [.lt] [.int n]) b []) = some (.ret d) := fun {n b d} h k => (s_ite_t (by rw [t, decide_eq_true h])).trans k
  unfold u8S
  by_cases c1 : c < 128
  · rw [if_pos c1]
    exact exS_ret (yes c1 (exS_ret (s_ret (e_lst (e_args v e_args0)))))
  rw [if_neg c1]
  by_cases c2 : c < 2048
  · rw [if_pos c2]
    exact exS_cons (no c1) (exS_ret (yes c2 (exS_ret (s_ret (e_lst (e_args (e_or192 (by omega) (e_shr6 v)) (e_args (e_or128 (by omega) (e_and63 h0 v)) e_args0)))))))
  rw [if_neg c2]
  by_cases c3 : c < 65536
  · rw [if_pos c3]
    exact exS_cons (no c1) (exS_cons (no c2) (exS_ret (yes c3 (exS_ret (s_ret (e_lst (e_args (e_or224 (by omega) (e_shr12 v)) (e_args (e_or128 (by omega) (e_and63 (by omega) (e_shr6 v))) (e_args (e_or128 (by omega) (e_and63 h0 v)) e_args0)))))))))
  rw [if_neg c3]
  exact exS_cons (no c1) (exS_cons (no c2) (exS_cons (no c3) (exS_ret (s_ret (e_lst (e_args (e_or240 (by omega) (e_shr18 v)) (e_args (e_or128 (by omega) (e_and63 (by omega) (e_shr12 v))) (e_args (e_or128 (by omega) (e_and63 (by omega) (e_shr6 v))) (e_args (e_or128 (by omega) (e_and63 h0 v)) e_args0)))))))))

/-! places -/
theorem mem_shift {n : Nat} {s c : Int} : c ∈ (List.range n).map (fun i : Nat => (i : Int) + s) ↔ s ≤ c ∧ c < s + n := by
  simp only [List.mem_map, List.mem_range]
  constructor
  · rintro ⟨i, hi, rfl⟩; omega
  · rintro ⟨h1, h2⟩; exact ⟨(c - s).toNat, by omega, by omega⟩
theorem idx_shift {n : Nat} {s c : Int} (h : s ≤ c ∧ c < s + n) : (((List.range n).map (fun i : Nat => (i : Int) + s)).idxOf c : Int) = c - s := by
  have hn : ((List.range n).map (fun i : Nat => (i : Int) + s)).Nodup := List.pairwise_map.mpr (List.nodup_range.imp fun h e => h (by omega))
  have hg : ((List.range n).map (fun i : Nat => (i : Int) + s))[(c - s).toNat]? = some c := by
    rw [List.getElem?_map, List.getElem?_range (by omega)]
    simp only [Option.map_some, Option.some.injEq]
    omega
  obtain ⟨hlt, he⟩ := List.getElem?_eq_some_iff.mp hg
  have := hn.idxOf_getElem (c - s).toNat hlt
  rw [he] at this
  rw [this]
  omega

noncomputable def winCodes : List Int := winMid
theorem mid_far : ∀ x ∈ winMid, (128 ≤ x ∧ x < 160) ∨ 255 < x := by decide
theorem idx_user {c : Int} (h : c ∈ userT) : (userT.idxOf c : Int) = if c < 128 then c else c - 63360 + 128 := by
  unfold userT at h ⊢
  rw [List.idxOf_append]
  have e0 : ∀ x : Int, x ∈ (List.range 128).map (fun i : Nat => (i : Int)) ↔ 0 ≤ x ∧ x < 128 := fun x => by
    have := mem_shift (n := 128) (s := 0) (c := x)
    simpa using this
  have i0 : ∀ x : Int, 0 ≤ x ∧ x < 128 → (((List.range 128).map (fun i : Nat => (i : Int))).idxOf x : Int) = x := fun x hx => by
    have := idx_shift (n := 128) (s := 0) (c := x) (by omega)
    simpa using this
  by_cases q : c ∈ (List.range 128).map (fun i : Nat => (i : Int))
  · rw [if_pos q, i0 c ((e0 c).mp q), if_pos ((e0 c).mp q).2]
  · rw [List.mem_append] at h
    rcases h with h | h
    · exact absurd h q
    · have hs := mem_shift.mp h
      rw [if_neg q, if_neg (by omega)]
      have := idx_shift hs
      rw [Int.natCast_add, this]
      simp
theorem mem_user {c : Int} : c ∈ userT ↔ (0 ≤ c ∧ c < 128) ∨ (63360 ≤ c ∧ c ≤ 63487) := by
  unfold userT
  rw [List.mem_append, mem_shift]
  have := mem_shift (n := 128) (s := 0) (c := c)
  simp only [Int.add_zero] at this
  rw [this]
  omega
theorem mem_win {c : Int} : c ∈ winT ↔ (0 ≤ c ∧ c < 128) ∨ c ∈ winMid ∨ (160 ≤ c ∧ c ≤ 255) := by
  unfold winT
  rw [List.mem_append, List.mem_append, mem_shift]
  have := mem_shift (n := 128) (s := 0) (c := c)
  simp only [Int.add_zero] at this
  rw [this]
  constructor
  · rintro ((h | h) | h)
    · exact .inl (by omega)
    · exact .inr (.inl h)
    · exact .inr (.inr (by omega))
  · rintro (h | h | h)
    · exact .inl (.inl (by omega))
    · exact .inl (.inr h)
    · exact .inr (by omega)
theorem idx_win {c : Int} (h : c ∈ winT) : (winT.idxOf c : Int) = if c < 128 then c else if 160 ≤ c ∧ c ≤ 255 then c else 128 + (winMid.idxOf c : Int) := by
  have e0 : ∀ x : Int, x ∈ (List.range 128).map (fun i : Nat => (i : Int)) ↔ 0 ≤ x ∧ x < 128 := fun x => by
    have := mem_shift (n := 128) (s := 0) (c := x)
    simpa using this
  have i0 : ∀ x : Int, 0 ≤ x ∧ x < 128 → (((List.range 128).map (fun i : Nat => (i : Int))).idxOf x : Int) = x := fun x hx => by
    have := idx_shift (n := 128) (s := 0) (c := x) (by omega)
    simpa using this
  rw [mem_win] at h
  unfold winT
  rw [List.idxOf_append, List.idxOf_append]
  by_cases q1 : 0 ≤ c ∧ c < 128
  · have m1 := (e0 c).mpr q1
    rw [if_pos (List.mem_append_left _ m1), if_pos m1, i0 c q1, if_pos q1.2]
  · have m1 : c ∉ (List.range 128).map (fun i : Nat => (i : Int)) := fun q => q1 ((e0 c).mp q)
    by_cases q2 : c ∈ winMid
    · have f := mid_far c q2
      rw [if_pos (List.mem_append_right _ q2), if_neg m1, if_neg (by omega), if_neg (by omega), Int.natCast_add]
      simp
      omega
    · have q3 : 160 ≤ c ∧ c ≤ 255 := by rcases h with h | h | h; exact absurd h q1; exact absurd h q2; exact h
      have m2 : c ∉ (List.range 128).map (fun i : Nat => (i : Int)) ++ winMid := fun q => by
        rcases List.mem_append.mp q with q | q
        · exact m1 q
        · exact q2 q
      rw [if_neg m2, if_neg (by omega), if_pos q3, Int.natCast_add, idx_shift (by omega)]
      simp [winMid]
end Mine

namespace Mine
open PySem PySem.W PySem.Calls PyProof.Rows PySem.SeqAt

noncomputable def tabS (w : Bool) : List Int := if w then winT else userT
noncomputable def nameS (w : Bool) : List Nat := if w then nameWin else nameUsr

noncomputable def C8 : List XS := [.ite (.cmp (.call 0 [.var 2]) [.eq] [.var 0]) [.ret (.var 2)] []]

theorem win_mid : ((List.range 32).all fun k => decide (winMid[k]? = some (win (128 + (k : Nat))))) = true := by decide +kernel

theorem loopFind {c : Int} {nm : List Nat} (ms : List Int) : ∀ (k : Nat) (z : Slot), winMid.drop k = ms → ∃ z', forL (turn (Fn 5000 8) 5000 (.one 2) C8) ((List.range' k ms.length).map fun i : Nat => .int ((128 : Int) + (i : Int) * 1)) [.val (.int c), .val (.str nm), z] =
    if c ∈ ms then some (.ret (.int (128 + (k : Int) + (ms.idxOf c : Int)))) else some (.next [.val (.int c), .val (.str nm), z']) := by
  induction ms with
  | nil =>
    intro k z _
    exact ⟨z, by simp [forL]⟩
  | cons v ms ih =>
    intro k z hd
    have hk : winMid[k]? = some v := by
      have := List.getElem?_drop (xs := winMid) (i := k) (j := 0)
      rw [hd] at this
      simpa using this.symm
    have hklt : k < 32 := (List.getElem?_eq_some_iff.mp hk).1
    have hd' : winMid.drop (k + 1) = ms := by rw [← List.drop_drop, hd]; rfl
    have hw : win (128 + (k : Int)) = v := by
      have := List.all_eq_true.mp win_mid k (List.mem_range.mpr hklt)
      simp only [decide_eq_true_eq] at this
      rw [hk] at this
      exact (Option.some.inj this).symm
    have e1 : (128 : Int) + (k : Int) * 1 = 128 + (k : Int) := by omega
    obtain ⟨z', e⟩ := ih (k + 1) (.val (.int (128 + (k : Int)))) hd'
    rw [List.length_cons, List.range'_succ, List.map_cons, e1]
    have hs : setT (.one 2) (.int (128 + (k : Int))) [.val (.int c), .val (.str nm), z] = some [.val (.int c), .val (.str nm), .val (.int (128 + (k : Int)))] := rfl
    have ht : evE (Fn 5000 8) [.val (.int c), .val (.str nm), .val (.int (128 + (k : Int)))] none (.cmp (.call 0 [.var 2]) [.eq] [.var 0]) = some (.bool (decide (v = c))) := by
      have := e_eqi (F := Fn 5000 8) (σ := [.val (.int c), .val (.str nm), .val (.int (128 + (k : Int)))]) (cv := none) (e_call (e_args (e_var (i := 2) rfl) e_args0) (F_c1 (by omega) (show 0 ≤ 128 + (k : Int) by omega) (by omega))) (e_var (i := 0) (d := .int c) rfl)
      rw [this, hw]
    by_cases q : v = c
    · subst q
      rw [decide_eq_true rfl] at ht
      refine ⟨z', ?_⟩
      rw [if_pos List.mem_cons_self]
      refine (fl_ret ((turn_eq hs).trans (exS_ret ((s_ite_t ht).trans (exS_ret (s_ret (e_var rfl))))))).trans ?_
      simp
    · rw [decide_eq_false q] at ht
      refine ⟨z', ?_⟩
      refine (fl_next ((turn_eq hs).trans (exS_one.trans ((s_ite_f ht).trans exS_nil)))).trans (e.trans ?_)
      by_cases m : c ∈ ms
      · rw [if_pos m, if_pos (List.mem_cons_of_mem _ m), List.idxOf_cons]
        have qb : (v == c) = false := by simpa using q
        rw [qb]
        simp only [cond_false, Bool.false_eq_true, if_false]
        congr 3
        omega
      · rw [if_neg m, if_neg fun z => by
          rcases List.mem_cons.mp z with z | z
          · exact q z.symm
          · exact m z]

theorem F_octet_of {i : Nat} {w : Bool} (hi : 8 < i) {c : Int} (h0 : 0 ≤ c) (h1 : c ≤ 1114111) : Fn 5000 i 8 [.int c, .str (nameS w)] = some (.int (if c ∈ tabS w then ((tabS w).idxOf c : Int) else -1)) := by
  refine F_ret hi rfl ?_
  show exS _ _ [.val (.int c), .val (.str (nameS w)), .no] P_octet_of = _
  have v : evE (Fn 5000 8) [.val (.int c), .val (.str (nameS w)), .no] none (.var 0) = some (.int c) := e_var rfl
  have t1 : evE (Fn 5000 8) [.val (.int c), .val (.str (nameS w)), .no] none (.cmp (.var 0) [.lt] [.int 128]) = some (.bool (decide (c < 128))) := e_lt v (e_int 128)
  have t2 : evE (Fn 5000 8) [.val (.int c), .val (.str (nameS w)), .no] none (.cmp (.var 1) [.eq] [.str nameUsr]) = some (.bool (nameS w == nameUsr)) := e_cmp1 (x := .str (nameS w)) (e_var rfl) (e_str nameUsr) (by simp only [evCmp, evEq])
  have t3 := e_and2 (F := Fn 5000 8) (σ := [.val (.int c), .val (.str (nameS w)), .no]) (cv := none) (e_ge v (e_int 63360)) fun _ => e_le v (e_int 63487)
  have t4 := e_and2 (F := Fn 5000 8) (σ := [.val (.int c), .val (.str (nameS w)), .no]) (cv := none) (e_ge v (e_int 160)) fun _ => e_le v (e_int 255)
  by_cases c1 : c < 128
  · rw [decide_eq_true c1] at t1
    have hm : c ∈ tabS w := by cases w; exact mem_user.mpr (.inl ⟨h0, c1⟩); exact mem_win.mpr (.inl ⟨h0, c1⟩)
    have hx : ((tabS w).idxOf c : Int) = c := by
      cases w
      · exact (idx_user hm).trans (if_pos c1)
      · exact (idx_win hm).trans (if_pos c1)
    rw [if_pos hm, hx]
    exact exS_ret ((s_ite_t t1).trans (exS_ret (s_ret v)))
  rw [decide_eq_false c1] at t1
  refine exS_cons ((s_ite_f t1).trans exS_nil) ?_
  cases w with
  | false =>
    rw [show (nameS false == nameUsr) = true from by decide] at t2
    refine exS_ret ((s_ite_t t2).trans ?_)
    by_cases q : 63360 ≤ c ∧ c ≤ 63487
    · have e : (decide (63360 ≤ c) && decide (c ≤ 63487)) = true := by simp [q.1, q.2]
      rw [e] at t3
      have hm : c ∈ userT := mem_user.mpr (.inr q)
      rw [show tabS false = userT from rfl, if_pos hm, idx_user hm, if_neg c1]
      exact exS_ret ((s_ite_t t3).trans (exS_ret (s_ret (e_add (e_sub v (e_int 63360)) (e_int 128)))))
    · have e : (decide (63360 ≤ c) && decide (c ≤ 63487)) = false := by
        rw [Bool.and_eq_false_iff, decide_eq_false_iff_not, decide_eq_false_iff_not]; omega
      rw [e] at t3
      have hm : c ∉ userT := fun z => by rcases mem_user.mp z with z | z <;> omega
      rw [show tabS false = userT from rfl, if_neg hm]
      exact exS_cons ((s_ite_f t3).trans exS_nil) (exS_ret (s_ret (e_int (-1))))
  | true =>
    rw [show (nameS true == nameUsr) = false from by decide] at t2
    refine exS_cons ((s_ite_f t2).trans exS_nil) ?_
    rw [show tabS true = winT from rfl]
    by_cases q : 160 ≤ c ∧ c ≤ 255
    · have e : (decide (160 ≤ c) && decide (c ≤ 255)) = true := by simp [q.1, q.2]
      rw [e] at t4
      have hm : c ∈ winT := mem_win.mpr (.inr (.inr q))
      rw [if_pos hm, idx_win hm, if_neg c1, if_pos q]
      exact exS_ret ((s_ite_t t4).trans (exS_ret (s_ret v)))
    · have e : (decide (160 ≤ c) && decide (c ≤ 255)) = false := by
        rw [Bool.and_eq_false_iff, decide_eq_false_iff_not, decide_eq_false_iff_not]; omega
      rw [e] at t4
      refine exS_cons ((s_ite_f t4).trans exS_nil) ?_
      obtain ⟨z', el⟩ := loopFind (c := c) (nm := nameS true) winMid 0 .no rfl
      have hr := rangeOk_small (a := 128) (b := 160) (c := 1) (by omega) (by omega) (.inl rfl)
      have hn : rangeNum 128 160 1 = winMid.length := by decide
      have hsrc : evE (Fn 5000 8) [.val (.int c), .val (.str (nameS true)), .no] none (.prim .range [.int 128, .int 160]) = some (.range 128 160 1) := e_prim (e_args (e_int 128) (e_args (e_int 160) e_args0)) rfl
      have hit : itemsFor (.one 2) (.range 128 160 1) = some ((List.range' 0 winMid.length).map fun i : Nat => .int ((128 : Int) + (i : Int) * 1)) := by
        rw [← List.range_eq_range']
        exact items_range hr hn
      by_cases m : c ∈ winMid
      · rw [if_pos m] at el
        have hm : c ∈ winT := mem_win.mpr (.inr (.inl m))
        rw [if_pos hm, idx_win hm, if_neg c1, if_neg q]
        exact exS_ret (s_forT hsrc hit (el.trans (by simp)))
      · rw [if_neg m] at el
        have hm : c ∉ winT := fun z => by
          rcases mem_win.mp z with z | z | z
          · omega
          · exact m z
          · exact q z
        rw [if_neg hm]
        exact exS_cons (s_forT hsrc hit el) (exS_ret (s_ret (e_int (-1))))
end Mine

namespace Mine
open PySem PySem.W PySem.Calls PyProof.Rows PySem.SeqAt

theorem decText_range {n : Int} (h0 : 0 ≤ n) : ∀ c ∈ decText n, c < 256 := by
  intro c hc
  unfold decText at hc
  rw [Str.ofString_eq_toList] at hc
  simp only [List.toList_toArray, List.mem_map] at hc
  obtain ⟨ch, hm, rfl⟩ := hc
  rcases int_sign n ch hm with h | rfl
  · have := (digit_range h).2; omega
  · decide
theorem decText_len {n : Int} (h0 : 0 ≤ n) (h1 : n < 10000000) : (decText n).length ≤ 8 := by
  have h := int_text_length_le10 (a := n) (k := 7) (by decide) (by omega)
  have e := PySem.ofString_length (toString n)
  unfold decText
  have e2 : (Str.ofString (toString n)).cps.toList.length = (Str.ofString (toString n)).length := by rw [Array.length_toList]; rfl
  rw [e2, e]
  exact h

noncomputable def refS (c : Int) : List Nat := [38, 35] ++ decText c ++ [59]
theorem refS_len {c : Int} (h0 : 0 ≤ c) (h1 : c ≤ 1114111) : (refS c).length ≤ 11 := by
  have := decText_len h0 (by omega)
  simp only [refS, List.length_append, List.length_cons, List.length_nil]; omega
theorem refS_range {c : Int} (h0 : 0 ≤ c) : ∀ x ∈ refS c, x < 256 := by
  intro x hx
  simp only [refS, List.mem_append, List.mem_cons, List.not_mem_nil, or_false] at hx
  rcases hx with (((rfl | rfl) | h) | rfl)
  · decide
  · decide
  · exact decText_range h0 x h
  · decide
/-- what a sign is in an encoding of single octets -/
noncomputable def encW (w : Bool) (c : Int) : List Int := if c ∈ tabS w then [((tabS w).idxOf c : Int)] else (refS c).map fun x : Nat => (x : Int)

theorem tab_len (w : Bool) : (tabS w).length = 256 := by cases w <;> decide
theorem encW_range {w : Bool} {c : Int} (h0 : 0 ≤ c) : ∀ x ∈ encW w c, 0 ≤ x ∧ x < 256 := by
  intro x hx
  unfold encW at hx
  split at hx
  · rename_i h
    rw [List.mem_singleton] at hx
    subst hx
    have := List.idxOf_lt_length_of_mem h
    rw [tab_len] at this
    omega
  · obtain ⟨y, hy, rfl⟩ := List.mem_map.mp hx
    have := refS_range h0 y hy
    omega
theorem encW_len {w : Bool} {c : Int} (h0 : 0 ≤ c) (h1 : c ≤ 1114111) : (encW w c).length ≤ 11 := by
  unfold encW
  split
  · simp
  · rw [List.length_map]; exact refS_len h0 h1

section
variable {F : FTab} {σ : List Slot} {a : Mine.X} {c : Int}
theorem compL_cps {f : D → Option D} {g : Nat → D} (hs : ∀ x, scalar (g x) = true) : ∀ (l : List Nat), (∀ x ∈ l, f (.str [x]) = some (g x)) → compL f (cps l) = some (l.map g)
  | [], _ => rfl
  | x :: l, h => by
    have ih := compL_cps hs l fun y hy => h y (List.mem_cons_of_mem _ hy)
    simp only [cps, List.map_cons] at ih ⊢
    simp only [compL, h x List.mem_cons_self, hs x, if_true, ih]
theorem items_str {l : List Nat} (h : l.length ≤ big) : itemsOf (.str l) = some (cps l) := by simp only [itemsOf]; rw [if_pos h]; rfl
theorem e_ref (ha : evE F σ none a = some (.int c)) (h0 : 0 ≤ c) (h1 : c ≤ 1114111) : evE F σ none (.comp (.prim .ord [.cvar]) (.bin .add (.bin .add (.str [38, 35]) (.prim .str [a])) (.str [59]))) = some (.lst ((refS c).map fun x : Nat => .int (x : Int))) := by
  have hl := decText_len h0 (show c < 10000000 by omega)
  have hr := refS_len h0 h1
  have e1 : evE F σ none (.bin .add (.bin .add (.str [38, 35]) (.prim .str [a])) (.str [59])) = some (.str (refS c)) := by
    refine e_cats (i := [38, 35] ++ decText c) (j := [59]) (e_cats (e_str [38, 35]) (e_prim (e_args ha e_args0) ?_) ?_) (e_str [59]) ?_
    · simp only [evPrim]
      rw [if_pos (by omega)]
    · simp only [List.length_cons, List.length_nil]; unfold big; omega
    · simp only [List.length_append, List.length_cons, List.length_nil]; unfold big; omega
  refine e_comp e1 (items_str (by unfold big; omega)) (compL_cps (fun _ => rfl) _ fun x _ => ?_)
  exact e_prim (e_args e_cvar e_args0) rfl
end

theorem F_octets_w {i : Nat} {w : Bool} (hi : 9 < i) {c : Int} (h0 : 0 ≤ c) (h1 : c ≤ 1114111) : Fn 5000 i 9 [.int c, .str (nameS w)] = some (.lst ((encW w c).map .int)) := by
  refine F_ret hi rfl ?_
  show exS _ _ [.val (.int c), .val (.str (nameS w)), .no] P_octets_of = _
  have t1 : evE (Fn 5000 9) [.val (.int c), .val (.str (nameS w)), .no] none (.cmp (.var 1) [.notin] [.tup [.str [119, 105, 110, 100, 111, 119, 115, 45, 49, 50, 53, 50], .str [120, 45, 117, 115, 101, 114, 45, 100, 101, 102, 105, 110, 101, 100]]]) = some (.bool false) := by
    refine e_cmp1 (x := .str (nameS w)) (e_var rfl) (e_tup (e_args (e_str _) (e_args (e_str _) e_args0))) ?_
    cases w <;> rfl
  refine exS_cons ((s_ite_f t1).trans exS_nil) ?_
  have h8 := F_octet_of (i := 9) (w := w) (by omega) h0 h1
  unfold encW
  by_cases m : c ∈ tabS w
  · rw [if_pos m] at h8 ⊢
    refine exS_cons (s_assign (e_call (e_args (e_var rfl) (e_args (e_var rfl) e_args0)) h8)) ?_
    have t2 : evE (Fn 5000 9) [.val (.int c), .val (.str (nameS w)), .val (.int ((tabS w).idxOf c : Int))] none (.cmp (.var 2) [.ge] [.int 0]) = some (.bool (decide ((0 : Int) ≤ ((tabS w).idxOf c : Int)))) := e_ge (e_var rfl) (e_int 0)
    rw [decide_eq_true (by omega)] at t2
    exact exS_ret ((s_ite_t t2).trans (exS_ret (s_ret (e_lst (e_args (e_var rfl) e_args0)))))
  · rw [if_neg m] at h8 ⊢
    refine exS_cons (s_assign (e_call (e_args (e_var rfl) (e_args (e_var rfl) e_args0)) h8)) ?_
    have t2 : evE (Fn 5000 9) [.val (.int c), .val (.str (nameS w)), .val (.int (-1))] none (.cmp (.var 2) [.ge] [.int 0]) = some (.bool (decide ((0 : Int) ≤ -1))) := e_ge (e_var rfl) (e_int 0)
    rw [decide_eq_false (by omega)] at t2
    refine exS_cons ((s_ite_f t2).trans exS_nil) (exS_ret (s_ret ?_))
    rw [List.map_map]
    exact e_ref (e_var rfl) h0 h1

noncomputable def wideN (nm : List Nat) : Prop := nm = nameU8 ∨ nm = nameBE ∨ nm = nameLE
theorem F_octets_u {i : Nat} {nm : List Nat} (hi : 9 < i) (hn : wideN nm) {c : Int} (h0 : 0 ≤ c) (h1 : c ≤ 1114111) : Fn 5000 i 9 [.int c, .str nm] = some (.lst ((u8S c).map .int)) := by
  refine F_ret hi rfl ?_
  show exS _ _ [.val (.int c), .val (.str nm), .no] P_octets_of = _
  have t1 : evE (Fn 5000 9) [.val (.int c), .val (.str nm), .no] none (.cmp (.var 1) [.notin] [.tup [.str [119, 105, 110, 100, 111, 119, 115, 45, 49, 50, 53, 50], .str [120, 45, 117, 115, 101, 114, 45, 100, 101, 102, 105, 110, 101, 100]]]) = some (.bool true) := by
    refine e_cmp1 (x := .str nm) (e_var rfl) (e_tup (e_args (e_str _) (e_args (e_str _) e_args0))) ?_
    rcases hn with rfl | rfl | rfl <;> rfl
  exact exS_ret ((s_ite_t t1).trans (exS_ret (s_ret (e_call (e_args (e_var rfl) e_args0) (F_u8 (by omega) h0 h1)))))
theorem u8S_range {c : Int} (h0 : 0 ≤ c) (h1 : c ≤ 1114111) : ∀ x ∈ u8S c, 0 ≤ x ∧ x < 256 := by
  intro x hx
  unfold u8S at hx
  split at hx
  · simp at hx; omega
  · split at hx
    · simp at hx; omega
    · split at hx
      · simp at hx; omega
      · simp at hx; omega
theorem u8S_len {c : Int} : (u8S c).length ≤ 4 := by
  unfold u8S
  split
  · simp
  · split
    · simp
    · split <;> simp
end Mine

namespace Mine
open PySem PySem.W PySem.Calls PyProof.Rows PySem.SeqAt

noncomputable def rp (c : Nat) : Int := if 55296 ≤ c ∧ c ≤ 57343 then 65533 else c
theorem rp_in {c : Nat} (h : c ≤ 1114111) : 0 ≤ rp c ∧ rp c ≤ 1114111 := by unfold rp; split <;> omega

noncomputable def C10 : List XS := [
    .assign 4 (.prim .ord [.var 3]),
    .ite (.call 1 [.var 4]) [
      .assign 4 (.int 65533)] [
],
    .extend 2 (.call 9 [.var 4, .var 1])]
noncomputable def knownL (nm : List Nat) : Prop := nm ∈ [nameU8, nameBE, nameLE, nameWin, nameUsr]

theorem flat_len {α : Type} {g : α → List Int} {n : Nat} : ∀ (l : List α), (∀ x ∈ l, (g x).length ≤ n) → (l.flatMap g).length ≤ n * l.length
  | [], _ => by simp
  | x :: l, h => by
    have ih := flat_len l fun y hy => h y (List.mem_cons_of_mem _ hy)
    have h0 := h x List.mem_cons_self
    rw [List.flatMap_cons, List.length_append, List.length_cons, Nat.mul_succ]
    omega

section
variable {nm : List Nat} {g : Int → List Int}
theorem loop10 {t : List Nat} (hg : ∀ c, 0 ≤ c → c ≤ 1114111 → Fn 5000 10 9 [.int c, .str nm] = some (.lst ((g c).map .int))) (hl : ∀ c, 0 ≤ c → c ≤ 1114111 → (g c).length ≤ 11) (ts : List Nat) : ∀ (out : List Int) (s3 s4 : Slot), (∀ c ∈ ts, c ≤ 1114111) → out.length + 11 * ts.length ≤ 5000 →
    ∃ t3 t4, forL (turn (Fn 5000 10) 5000 (.one 3) C10) (cps ts) [.val (.str t), .val (.str nm), .own (out.map .int), s3, s4] = some (.next [.val (.str t), .val (.str nm), .own ((out ++ (ts.map rp).flatMap g).map .int), t3, t4]) := by
  induction ts with
  | nil => intro out s3 s4 _ _; exact ⟨s3, s4, by simp [cps, forL]⟩
  | cons c ts ih =>
    intro out s3 s4 hc hout
    have c1 := hc c List.mem_cons_self
    rw [List.length_cons] at hout
    obtain ⟨r0, r1⟩ := rp_in c1
    have hgl := hl (rp c) r0 r1
    obtain ⟨t3, t4, e⟩ := ih (out ++ g (rp c)) (.val (.str [c])) (.val (.int (rp c))) (fun x hx => hc x (List.mem_cons_of_mem _ hx)) (by rw [List.length_append]; omega)
    refine ⟨t3, t4, ?_⟩
    have hs : setT (.one 3) (.str [c]) [.val (.str t), .val (.str nm), .own (out.map .int), s3, s4] = some [.val (.str t), .val (.str nm), .own (out.map .int), .val (.str [c]), s4] := rfl
    have hsur := F_sur (wf := 5000) (i := 10) (by omega) (c : Int)
    have step : exS (Fn 5000 10) 5000 [.val (.str t), .val (.str nm), .own (out.map .int), .val (.str [c]), s4] C10 = some (.next [.val (.str t), .val (.str nm), .own ((out ++ g (rp c)).map .int), .val (.str [c]), .val (.int (rp c))]) := by
      refine exS_cons (s_assign (e_prim (e_args (e_var rfl) e_args0) (d := .int (c : Int)) rfl)) ?_
      have hcode : exX (Fn 5000 10) 5000 [.val (.str t), .val (.str nm), .own (out.map .int), .val (.str [c]), .val (.int (c : Int))] (.ite (.call 1 [.var 4]) [.assign 4 (.int 65533)] []) =
          some (.next [.val (.str t), .val (.str nm), .own (out.map .int), .val (.str [c]), .val (.int (rp c))]) := by
        have ht := e_call (F := Fn 5000 10) (σ := [.val (.str t), .val (.str nm), .own (out.map .int), .val (.str [c]), .val (.int (c : Int))]) (cv := none) (e_args (e_var (i := 4) rfl) e_args0) hsur
        unfold rp
        by_cases q : 55296 ≤ c ∧ c ≤ 57343
        · have b : (decide ((55296 : Int) ≤ (c : Int)) && decide ((c : Int) ≤ 57343)) = true := by
            rw [Bool.and_eq_true, decide_eq_true_eq, decide_eq_true_eq]; omega
          rw [b] at ht
          rw [if_pos q]
          exact (s_ite_t ht).trans (exS_one.trans (s_assign (e_int 65533)))
        · have b : (decide ((55296 : Int) ≤ (c : Int)) && decide ((c : Int) ≤ 57343)) = false := by
            rw [Bool.and_eq_false_iff, decide_eq_false_iff_not, decide_eq_false_iff_not]; omega
          rw [b] at ht
          rw [if_neg q]
          exact (s_ite_f ht).trans exS_nil
      refine exS_cons hcode ?_
      rw [exS_one]
      refine s_extend (l := (g (rp c)).map .int) (e_call (e_args (e_var rfl) (e_args (e_var rfl) e_args0)) (hg _ r0 r1)) ?_
      simp only [evAppend, List.getElem?_cons_succ, List.getElem?_cons_zero]
      rw [if_pos (by rw [List.length_map, List.length_map]; unfold big; omega), List.map_append]
      rfl
    rw [show cps (c :: ts) = .str [c] :: cps ts from rfl]
    refine (fl_next ((turn_eq hs).trans step)).trans (e.trans ?_)
    rw [List.map_cons, List.flatMap_cons, List.append_assoc]

theorem F_encode {i : Nat} {t : List Nat} (hi : 10 < i) (hk : knownL nm) (hg : ∀ c, 0 ≤ c → c ≤ 1114111 → Fn 5000 10 9 [.int c, .str nm] = some (.lst ((g c).map .int))) (hl : ∀ c, 0 ≤ c → c ≤ 1114111 → (g c).length ≤ 11)
    (hr : ∀ c, 0 ≤ c → c ≤ 1114111 → ∀ x ∈ g c, 0 ≤ x ∧ x < 256) (ht : ∀ c ∈ t, c ≤ 1114111) (hb : t.length ≤ 100) : Fn 5000 i 10 [.str t, .str nm] = some (.bytes ((t.map rp).flatMap g)) := by
  refine F_ret hi rfl ?_
  show exS _ _ [.val (.str t), .val (.str nm), .no, .no, .no] P_encode = _
  have t1 : evE (Fn 5000 10) [.val (.str t), .val (.str nm), .no, .no, .no] none (.cmp (.var 1) [.notin] [.tup [.str [85, 84, 70, 45, 56], .str [85, 84, 70, 45, 49, 54, 66, 69], .str [85, 84, 70, 45, 49, 54, 76, 69], .str [119, 105, 110, 100, 111, 119, 115, 45, 49, 50, 53, 50], .str [120, 45, 117, 115, 101, 114, 45, 100, 101, 102, 105, 110, 101, 100]]]) = some (.bool false) := by
    refine e_cmp1 (x := .str nm) (e_var rfl) (e_tup (e_args (e_str _) (e_args (e_str _) (e_args (e_str _) (e_args (e_str _) (e_args (e_str _) e_args0)))))) ?_
    simp only [knownL, List.mem_cons, List.not_mem_nil, or_false] at hk
    rcases hk with rfl | rfl | rfl | rfl | rfl <;> rfl
  refine exS_cons ((s_ite_f t1).trans exS_nil) ?_
  refine exS_cons (σ' := [.val (.str t), .val (.str nm), .own [], .no, .no]) (by simp [exX]) ?_
  obtain ⟨t3, t4, e⟩ := loop10 (t := t) hg hl t [] .no .no ht (by simp; omega)
  rw [List.nil_append] at e
  refine exS_cons (s_forT (d := .str t) (e_var rfl) (show itemsFor (.one 3) (.str t) = some (cps t) from items_str (by unfold big; omega)) e) ?_
  refine exS_cons (s_freeze rfl) (exS_ret (s_ret (e_prim (e_args (e_var rfl) e_args0) ?_)))
  have hlen : ((t.map rp).flatMap g).length ≤ 11 * (t.map rp).length := flat_len _ fun x hx => by
    obtain ⟨c, hc, rfl⟩ := List.mem_map.mp hx
    obtain ⟨r0, r1⟩ := rp_in (ht c hc)
    exact hl _ r0 r1
  rw [List.length_map] at hlen
  simp only [evPrim]
  rw [if_pos (by rw [List.length_map]; unfold big; omega), intsOf_map]
  simp only
  rw [if_pos]
  rw [List.all_eq_true]
  intro x hx
  obtain ⟨y, hy, hx⟩ := List.mem_flatMap.mp hx
  obtain ⟨c, hc, rfl⟩ := List.mem_map.mp hy
  obtain ⟨r0, r1⟩ := rp_in (ht c hc)
  simp [hr _ r0 r1 x hx]
end

/-! _law_singles -/
noncomputable def C20 : List XS := [
    .ite (.cmp (.var 3) [.isin] [.var 0]) [
      .append 2 (.index (.var 0) (.var 3))] [
      .extend 2 (.comp (.prim .ord [.cvar]) (.bin .add (.bin .add (.str [38, 35]) (.prim .str [.var 3])) (.str [59])))]]
theorem loop20 {w : Bool} {P : D} (ps : List Int) : ∀ (out : List Int) (s3 : Slot), (∀ c ∈ ps, 0 ≤ c ∧ c ≤ 1114111) → out.length + 11 * ps.length ≤ 5000 →
    ∃ t3, forL (turn (Fn 5000 20) 5000 (.one 3) C20) (ps.map .int) [.val (.lst ((tabS w).map .int)), .val P, .own (out.map .int), s3] = some (.next [.val (.lst ((tabS w).map .int)), .val P, .own ((out ++ ps.flatMap (encW w)).map .int), t3]) := by
  have hb : ((tabS w).map D.int).length ≤ big := by rw [List.length_map, tab_len]; decide
  induction ps with
  | nil => intro out s3 _ _; exact ⟨s3, by simp [forL]⟩
  | cons c ps ih =>
    intro out s3 hc hout
    obtain ⟨c0, c1⟩ := hc c List.mem_cons_self
    rw [List.length_cons] at hout
    have hgl := encW_len (w := w) c0 c1
    obtain ⟨t3, e⟩ := ih (out ++ encW w c) (.val (.int c)) (fun x hx => hc x (List.mem_cons_of_mem _ hx)) (by rw [List.length_append]; omega)
    refine ⟨t3, ?_⟩
    have hs : setT (.one 3) (.int c) [.val (.lst ((tabS w).map .int)), .val P, .own (out.map .int), s3] = some [.val (.lst ((tabS w).map .int)), .val P, .own (out.map .int), .val (.int c)] := rfl
    have ht : evE (Fn 5000 20) [.val (.lst ((tabS w).map .int)), .val P, .own (out.map .int), .val (.int c)] none (.cmp (.var 3) [.isin] [.var 0]) = some (.bool ((tabS w).contains c)) := by
      refine e_cmp1 (x := .int c) (y := .lst ((tabS w).map .int)) (e_var rfl) (e_var rfl) ?_
      simp only [evCmp, evIn]
      rw [if_pos hb, intsOf_map]
      rfl
    have step : exS (Fn 5000 20) 5000 [.val (.lst ((tabS w).map .int)), .val P, .own (out.map .int), .val (.int c)] C20 = some (.next [.val (.lst ((tabS w).map .int)), .val P, .own ((out ++ encW w c).map .int), .val (.int c)]) := by
      unfold C20
      rw [exS_one]
      unfold encW at hgl ⊢
      by_cases m : c ∈ tabS w
      · have b : (tabS w).contains c = true := by simpa using m
        rw [b] at ht
        rw [if_pos m]
        refine (s_ite_t ht).trans (exS_one.trans (s_append (d := .int ((tabS w).idxOf c : Int)) (e_index (x := .lst ((tabS w).map .int)) (y := .int c) (e_var rfl) (e_var rfl) ?_) ?_))
        · simp only [evIndex]
          rw [if_pos hb, intsOf_map]
          simp only
          rw [if_pos m]
        · simp only [evAppend, List.getElem?_cons_succ, List.getElem?_cons_zero, List.length_cons, List.length_nil]
          rw [if_pos (by rw [List.length_map]; unfold big; omega), List.map_append]
          rfl
      · have b : (tabS w).contains c = false := by simpa using m
        rw [b] at ht
        rw [if_neg m] at hgl ⊢
        rw [List.length_map] at hgl
        refine (s_ite_f ht).trans (exS_one.trans (s_extend (l := ((refS c).map fun x : Nat => .int (x : Int))) (e_ref (e_var rfl) c0 c1) ?_))
        simp only [evAppend, List.getElem?_cons_succ, List.getElem?_cons_zero]
        rw [if_pos (by rw [List.length_map, List.length_map]; unfold big; omega), List.map_append, List.map_map]
        rfl
    rw [List.map_cons]
    refine (fl_next ((turn_eq hs).trans step)).trans (e.trans ?_)
    rw [List.flatMap_cons, List.append_assoc]
theorem F_singles {i : Nat} {w : Bool} {ps : List Int} (hi : 20 < i) (hp : ∀ c ∈ ps, 0 ≤ c ∧ c ≤ 1114111) (hb : ps.length ≤ 100) : Fn 5000 i 20 [.lst ((tabS w).map .int), .lst (ps.map .int)] = some (.lst ((ps.flatMap (encW w)).map .int)) := by
  refine F_ret hi rfl ?_
  show exS _ _ [.val (.lst ((tabS w).map .int)), .val (.lst (ps.map .int)), .no, .no] P_law_singles = _
  refine exS_cons (σ' := [.val (.lst ((tabS w).map .int)), .val (.lst (ps.map .int)), .own [], .no]) (by simp [exX]) ?_
  obtain ⟨t3, e⟩ := loop20 (w := w) (P := .lst (ps.map .int)) ps [] .no hp (by simp; omega)
  rw [List.nil_append] at e
  have hit : itemsFor (.one 3) (.lst (ps.map D.int)) = some (ps.map D.int) := by
    simp only [itemsFor, itemsOf]
    rw [if_pos (by rw [List.length_map]; unfold big; omega)]
  exact exS_cons (s_forT (d := .lst (ps.map .int)) (e_var rfl) hit e) (exS_cons (s_freeze rfl) (exS_ret (s_ret (e_var rfl))))
end Mine

namespace Mine
open PySem PySem.W PySem.Calls PyProof.Rows PySem.SeqAt

theorem F_rows {i : Nat} (hi : 12 < i) : Fn 5000 i 12 [] = some dRows := F_ret hi rfl rfl
theorem F_windows {i : Nat} (hi : 18 < i) : Fn 5000 i 18 [] = some (.lst (winMid.map .int)) := F_ret hi rfl rfl

/-! _law_form -/
noncomputable def formS : List (Int × Int) → Int → List Int × Int
  | [], c => ([], c)
  | (a, b) :: ls, c => ((a + (formS ls c).2 % (b - a)) :: (formS ls c).1, (formS ls c).2 / (b - a))
noncomputable def letsOk (ls : List (Int × Int)) : Prop := (∀ p ∈ ls, p.1 < p.2 ∧ 0 ≤ p.1 ∧ p.2 ≤ 256) ∧ ls.length ≤ 4
theorem formS_len : ∀ (ls : List (Int × Int)) (c : Int), (formS ls c).1.length = ls.length
  | [], c => rfl
  | (a, b) :: ls, c => by rw [formS]; simp [formS_len ls c]
theorem formS_range : ∀ (ls : List (Int × Int)) (c : Int), (∀ p ∈ ls, p.1 < p.2 ∧ 0 ≤ p.1 ∧ p.2 ≤ 256) → ∀ x ∈ (formS ls c).1, 0 ≤ x ∧ x < 256
  | [], c, _, x, hx => by cases hx
  | (a, b) :: ls, c, h, x, hx => by
    rw [formS] at hx
    have hab := h (a, b) List.mem_cons_self
    simp only at hab
    rcases List.mem_cons.mp hx with rfl | hx
    · have h1 := Int.emod_nonneg (formS ls c).2 (show b - a ≠ 0 by omega)
      have h2 := Int.emod_lt_of_pos (formS ls c).2 (show 0 < b - a by omega)
      omega
    · exact formS_range ls c (fun p hp => h p (List.mem_cons_of_mem _ hp)) x hx

noncomputable def C13 : List XS := [
    .unpack [4, 5] (.item (.var 0) (.var 3)),
    .assign 2 (.bin .add (.lst [.bin .add (.var 4) (.bin .mod (.var 1) (.bin .sub (.var 5) (.var 4)))]) (.var 2)),
    .assign 1 (.bin .fdiv (.var 1) (.bin .sub (.var 5) (.var 4)))]

theorem loop13 {F : FTab} {wf : Nat} {lets : List (Int × Int)} {c : Int} (hl : letsOk lets) : ∀ (m : Nat) (s3 s4 s5 : Slot), m ≤ lets.length →
    ∃ t3 t4 t5, forL (turn F wf (.one 3) C13) ((List.range' (lets.length - m) m).map fun i : Nat => .int ((lets.length : Int) - 1 + (i : Int) * (-1))) [.val (.lst (lets.map dLet)), .val (.int (formS (lets.drop m) c).2), .val (.lst ((formS (lets.drop m) c).1.map .int)), s3, s4, s5] =
      some (.next [.val (.lst (lets.map dLet)), .val (.int (formS lets c).2), .val (.lst ((formS lets c).1.map .int)), t3, t4, t5]) := by
  intro m
  induction m with
  | zero => intro s3 s4 s5 _; exact ⟨s3, s4, s5, by simp [forL]⟩
  | succ m ih =>
    intro s3 s4 s5 hm
    have hx : lets[m]? = some lets[m] := List.getElem?_eq_getElem (by omega)
    have hdr : lets.drop m = lets[m] :: lets.drop (m + 1) := List.drop_eq_getElem_cons (by omega)
    generalize hab : lets[m] = ab at *
    obtain ⟨a, b⟩ := ab
    have hp := hl.1 (a, b) (List.mem_of_getElem? hx)
    simp only at hp
    obtain ⟨t3, t4, t5, e⟩ := ih (.val (.int m)) (.val (.int a)) (.val (.int b)) (by omega)
    rw [hdr, formS] at e
    simp only at e
    have hfl := formS_len (lets.drop (m + 1)) c
    rw [List.length_drop] at hfl
    have hl4 := hl.2
    generalize formS (lets.drop (m + 1)) c = fc at *
    obtain ⟨fl, cc⟩ := fc
    simp only at e hfl ⊢
    refine ⟨t3, t4, t5, ?_⟩
    have en : (List.range' (lets.length - (m + 1)) (m + 1)) = (lets.length - (m + 1)) :: List.range' (lets.length - m) m := by
      rw [List.range'_succ]
      congr 1
      rw [show lets.length - (m + 1) + 1 = lets.length - m by omega]
    rw [en, List.map_cons]
    have ek : (lets.length : Int) - 1 + ((lets.length - (m + 1) : Nat) : Int) * (-1) = (m : Int) := by omega
    rw [ek]
    have hs : setT (.one 3) (.int (m : Int)) [.val (.lst (lets.map dLet)), .val (.int cc), .val (.lst (fl.map .int)), s3, s4, s5] = some [.val (.lst (lets.map dLet)), .val (.int cc), .val (.lst (fl.map .int)), .val (.int m), s4, s5] := rfl
    have b2 : (2 : Nat) ≤ big := by decide
    have step : exS F wf [.val (.lst (lets.map dLet)), .val (.int cc), .val (.lst (fl.map .int)), .val (.int m), s4, s5] C13 =
        some (.next [.val (.lst (lets.map dLet)), .val (.int (cc / (b - a))), .val (.lst (((a + cc % (b - a)) :: fl).map .int)), .val (.int m), .val (.int a), .val (.int b)]) := by
      refine exS_cons (s_unpack (d := dLet (a, b)) (e_item (x := .lst (lets.map dLet)) (e_var rfl) (e_var rfl) (i_lst (n := m) rfl (by unfold big; omega) (by rw [List.getElem?_map, hx]; rfl))) (σ' := [.val (.lst (lets.map dLet)), .val (.int cc), .val (.lst (fl.map .int)), .val (.int m), .val (.int a), .val (.int b)]) ?_) ?_
      · simp only [dLet, setT, List.length_cons, List.length_nil]
        rw [if_pos (by simpa using b2)]
        rfl
      · refine exS_cons (s_assign (d := .lst (((a + cc % (b - a)) :: fl).map .int)) (e_cat (i := [.int (a + cc % (b - a))]) (j := fl.map .int) (e_lst (e_args (e_add (e_var rfl) (e_mod (e_var rfl) (e_sub (e_var rfl) (e_var rfl)) (by omega))) e_args0)) (e_var rfl) ?_)) ?_
        · rw [List.length_map]; simp only [List.length_cons, List.length_nil]; unfold big; omega
        · rw [exS_one]
          exact s_assign (e_fdiv (e_var rfl) (e_sub (e_var rfl) (e_var rfl)) (by omega))
    exact (fl_next ((turn_eq hs).trans step)).trans e

theorem F_form {i : Nat} {lets : List (Int × Int)} {c : Int} (hi : 13 < i) (hl : letsOk lets) : Fn 5000 i 13 [.lst (lets.map dLet), .int c] = some (.lst ((formS lets c).1.map .int)) := by
  refine F_ret hi rfl ?_
  show exS _ _ [.val (.lst (lets.map dLet)), .val (.int c), .no, .no, .no, .no] P_law_form = _
  have hl4 := hl.2
  have hlb : (lets.map dLet).length ≤ big := by rw [List.length_map]; unfold big; omega
  refine exS_cons (s_assign (e_lst e_args0)) ?_
  obtain ⟨t3, t4, t5, e⟩ := loop13 (F := Fn 5000 13) (wf := 5000) (c := c) hl lets.length .no .no .no (Nat.le_refl _)
  rw [List.drop_length, Nat.sub_self, ← List.range_eq_range'] at e
  have hr := rangeOk_small (a := (lets.length : Int) - 1) (b := -1) (c := -1) (by omega) (by omega) (.inr (.inr rfl))
  have hn : rangeNum ((lets.length : Int) - 1) (-1) (-1) = lets.length := by
    unfold rangeNum Builtin.Range.rangeSize
    rw [if_neg (by omega), show -(-1 : Int) = 1 from rfl, Int.ediv_one]
    split <;> omega
  refine exS_cons (s_forT (d := .range ((lets.length : Int) - 1) (-1) (-1)) ?_ (show itemsFor (.one 3) _ = _ from items_range hr hn) e) (exS_ret (s_ret (e_var rfl)))
  have hlen := p_len hlb
  rw [List.length_map] at hlen
  refine e_prim (e_args (e_sub (e_prim (e_args (e_var rfl) e_args0) hlen) (e_int 1)) (e_args (e_int (-1)) (e_args (e_int (-1)) e_args0))) ?_
  simp [evPrim]

/-! a form is the octets of its sign: digits to the base 64 -/
theorem sub_mod (c k : Int) : (c - 64 * k) % 64 = c % 64 := by omega
theorem sub_div (c k : Int) : (c - 64 * k) / 64 = c / 64 - k := by omega
theorem div_lo {c k : Int} (h : 64 * k ≤ c) : k ≤ c / 64 := by omega
theorem div_hi {c k : Int} (h : c < 64 * k) : c / 64 < k := by omega
theorem u8S_1 {c : Int} (h : c < 128) : u8S c = [c] := if_pos h
theorem u8S_2 {c : Int} (h : 128 ≤ c) (h' : c < 2048) : u8S c = [192 + c / 64, 128 + c % 64] := (if_neg (Int.not_lt.mpr h)).trans (if_pos h')
theorem u8S_3 {c : Int} (h : 2048 ≤ c) (h' : c < 65536) : u8S c = [224 + c / 64 / 64, 128 + c / 64 % 64, 128 + c % 64] := by
  have e : c / 64 / 64 = c / 4096 := by omega
  rw [e]
  exact (if_neg (Int.not_lt.mpr (Int.le_trans (by decide) h))).trans ((if_neg (Int.not_lt.mpr h)).trans (if_pos h'))
theorem u8S_4 {c : Int} (h : 65536 ≤ c) : u8S c = [240 + c / 64 / 64 / 64, 128 + c / 64 / 64 % 64, 128 + c / 64 % 64, 128 + c % 64] := by
  have e : c / 64 / 64 = c / 4096 := by omega
  have e2 : c / 4096 / 64 = c / 262144 := by omega
  rw [e, e2]
  exact (if_neg (Int.not_lt.mpr (Int.le_trans (by decide) h))).trans ((if_neg (Int.not_lt.mpr (Int.le_trans (by decide) h))).trans (if_neg (Int.not_lt.mpr h)))
/-- three octets out of a row whose middle octet lies from m, n wide, the first from f -/
theorem form_3 {c r k : Int} {f w m n : Int} (hr : r = 64 * k) (h2 : 2048 ≤ c) (h3 : c < 65536) (e1 : m + (c / 64 - k) % n = 128 + c / 64 % 64) (e2 : f + (c / 64 - k) / n % w = 224 + c / 64 / 64) :
    [f + (c - r) / 64 / n % w, m + (c - r) / 64 % n, 128 + (c - r) % 64] = u8S c := by
  rw [hr, sub_mod, sub_div, e1, e2, u8S_3 h2 h3]
theorem form_4 {c r k j : Int} {f w m n : Int} (hr : r = 64 * k) (hk : k = 64 * j) (h3 : 65536 ≤ c) (e1 : m + (c / 64 / 64 - j) % n = 128 + c / 64 / 64 % 64) (e2 : f + (c / 64 / 64 - j) / n % w = 240 + c / 64 / 64 / 64) :
    [f + (c - r) / 64 / 64 / n % w, m + (c - r) / 64 / 64 % n, 128 + (c - r) / 64 % 64, 128 + (c - r) % 64] = u8S c := by
  rw [hr, sub_mod, sub_div, hk, sub_mod, sub_div, e1, e2, u8S_4 h3]
theorem sub_lt {x k w : Int} (h : x < k + w) : x - k < w := by omega
theorem top {x k w f g : Int} (h : k ≤ x) (h' : x < k + w) (e : f = g + k) : f + (x - k) % w = g + x := by
  rw [Int.emod_eq_of_lt (Int.sub_nonneg_of_le h) (sub_lt h'), e]
  omega
theorem div_is {q k : Int} (h : 64 * k ≤ q) (h' : q < 64 * (k + 1)) : q / 64 = k := Int.le_antisymm (Int.le_of_lt_add_one (div_hi h')) (div_lo h)
theorem top1 {x q k f g : Int} (h : 64 * k ≤ q) (h' : q < 64 * (k + 1)) (e : f = g + k) : f + x % 1 = g + q / 64 := by rw [Int.emod_one, div_is h h', e, Int.add_zero]
theorem mod_is {q k : Int} (h : 64 * k ≤ q) (h' : q < 64 * k + 64) : q % 64 = q - 64 * k := by
  rw [← sub_mod q k]
  exact Int.emod_eq_of_lt (Int.sub_nonneg_of_le h) (sub_lt h')
theorem mid {q k n m j : Int} (h : 64 * j ≤ q) (h' : q < 64 * j + 64) (l : k ≤ q) (l' : q < k + n) (e : m = 128 - 64 * j + k) : m + (q - k) % n = 128 + q % 64 := by
  rw [mod_is h h', top (g := 128 - 64 * j) l l' e]
  omega
theorem whole {q k m : Int} (e : m = 128) : m + (q - 64 * k) % 64 = 128 + q % 64 := by rw [sub_mod, e]
theorem top64 {q k f g w : Int} (h : 64 * k ≤ q) (h' : q < 64 * (k + w)) (e : f = g + k) : f + (q - 64 * k) / 64 % w = g + q / 64 := by
  rw [sub_div]
  exact top (div_lo h) (div_hi h') e
theorem dig_a {q : Int} (h : 32 ≤ q) (h' : q < 64) : 160 + (q - 32) % 32 = 128 + q % 64 ∧ 224 + (q - 32) / 32 % 1 = 224 + q / 64 :=
  ⟨mid (j := 0) (Int.le_trans (by decide) h) h' h h' rfl, top1 (k := 0) (Int.le_trans (by decide) h) h' rfl⟩
theorem dig_b {q : Int} (h : 64 ≤ q) (h' : q < 832) : 128 + (q - 64) % 64 = 128 + q % 64 ∧ 225 + (q - 64) / 64 % 12 = 224 + q / 64 := ⟨whole (k := 1) rfl, top64 (k := 1) h h' rfl⟩
theorem dig_c {q : Int} (h : 832 ≤ q) (h' : q < 864) : 128 + (q - 832) % 32 = 128 + q % 64 ∧ 237 + (q - 832) / 32 % 1 = 224 + q / 64 :=
  ⟨mid (j := 13) h (Int.lt_trans h' (by decide)) h h' rfl, top1 (k := 13) h (Int.lt_trans h' (by decide)) rfl⟩
theorem dig_d {q : Int} (h : 896 ≤ q) (h' : q < 1024) : 128 + (q - 896) % 64 = 128 + q % 64 ∧ 238 + (q - 896) / 64 % 2 = 224 + q / 64 := ⟨whole (k := 14) rfl, top64 (k := 14) h h' rfl⟩
theorem dig_e {q : Int} (h : 16 ≤ q) (h' : q < 64) : 144 + (q - 16) % 48 = 128 + q % 64 ∧ 240 + (q - 16) / 48 % 1 = 240 + q / 64 :=
  ⟨mid (j := 0) (Int.le_trans (by decide) h) h' h h' rfl, top1 (k := 0) (Int.le_trans (by decide) h) h' rfl⟩
theorem dig_f {q : Int} (h : 64 ≤ q) (h' : q < 256) : 128 + (q - 64) % 64 = 128 + q % 64 ∧ 241 + (q - 64) / 64 % 3 = 240 + q / 64 := ⟨whole (k := 1) rfl, top64 (k := 1) h h' rfl⟩
theorem dig_g {q : Int} (h : 256 ≤ q) (h' : q < 272) : 128 + (q - 256) % 16 = 128 + q % 64 ∧ 244 + (q - 256) / 16 % 1 = 240 + q / 64 :=
  ⟨mid (j := 4) h (Int.lt_trans h' (by decide)) h h' rfl, top1 (k := 4) h (Int.lt_trans h' (by decide)) rfl⟩
theorem not_sur {c : Int} (h : ¬ (55296 ≤ c ∧ c ≤ 57343)) (h' : c < 57344) : c < 55296 := by omega
theorem lt_top {c : Int} (h : c ≤ 1114111) : c < 1114112 := by omega
theorem dig_1 {c : Int} (h : 0 ≤ c) (h' : c < 128) : 0 + (c - 0) % 128 = c := by omega
theorem dig_2 {c : Int} (h : 2 ≤ c) (h' : c < 32) : 194 + (c - 2) % 30 = 192 + c := by omega

/-- a form is the octets of its sign -/
theorem form_u8 : ∀ row ∈ rows9, ∀ c : Int, row.1 ≤ c → (∀ r2 ∈ rows9, row.1 < r2.1 → c < r2.1) → c ≤ 1114111 → ¬ (55296 ≤ c ∧ c ≤ 57343) → (formS row.2 (c - row.1)).1 = u8S c := by
  have next : ∀ {c r : Int} (i : Nat) (r2 : Int × List (Int × Int)), (∀ r2 ∈ rows9, r < r2.1 → c < r2.1) → rows9[i]? = some r2 → r < r2.1 → c < r2.1 := fun i r2 u e => u r2 (List.mem_of_getElem? e)
  have le : ∀ {a b c : Int}, b ≤ c → a ≤ b → a ≤ c := fun h g => Int.le_trans g h
  have lt : ∀ {a b c : Int}, c < b → b ≤ a → c < a := fun h g => Int.lt_of_lt_of_le h g
  unfold rows9
  refine List.forall_mem_cons.mpr ⟨fun c h u _ _ => ?_, List.forall_mem_cons.mpr ⟨fun c h u _ _ => ?_, List.forall_mem_cons.mpr ⟨fun c h u _ _ => ?_, List.forall_mem_cons.mpr ⟨fun c h u _ _ => ?_, List.forall_mem_cons.mpr ⟨fun c h u _ n => ?_,
    List.forall_mem_cons.mpr ⟨fun c h u _ _ => ?_, List.forall_mem_cons.mpr ⟨fun c h u _ _ => ?_, List.forall_mem_cons.mpr ⟨fun c h u _ _ => ?_, List.forall_mem_cons.mpr ⟨fun c h _ t _ => ?_, List.forall_mem_nil _⟩⟩⟩⟩⟩⟩⟩⟩⟩
  · have l : c < 128 := next 1 _ u rfl (by decide)
    rw [u8S_1 l]
    exact congrArg (fun x => [x]) (dig_1 h l)
  · have l : c < 2048 := next 2 _ u rfl (by decide)
    have l1 : (2 : Int) ≤ c / 64 := div_lo h
    rw [u8S_2 h l]
    show [194 + (c - 64 * 2) / 64 % 30, 128 + (c - 64 * 2) % 64] = _
    rw [sub_mod, sub_div, dig_2 l1 (div_hi l)]
  · have l : c < 4096 := next 3 _ u rfl (by decide)
    have e := dig_a (q := c / 64) (div_lo h) (div_hi l)
    exact form_3 (k := 32) rfl h (lt l (by decide)) e.1 e.2
  · have l : c < 53248 := next 4 _ u rfl (by decide)
    have e := dig_b (q := c / 64) (div_lo h) (div_hi l)
    exact form_3 (k := 64) rfl (le h (by decide)) (lt l (by decide)) e.1 e.2
  · have l : c < 57344 := next 5 _ u rfl (by decide)
    have e := dig_c (q := c / 64) (div_lo h) (div_hi (not_sur n l))
    exact form_3 (k := 832) rfl (le h (by decide)) (lt l (by decide)) e.1 e.2
  · have l : c < 65536 := next 6 _ u rfl (by decide)
    have e := dig_d (q := c / 64) (div_lo h) (div_hi l)
    exact form_3 (k := 896) rfl (le h (by decide)) l e.1 e.2
  · have l : c < 262144 := next 7 _ u rfl (by decide)
    have e := dig_e (q := c / 64 / 64) (div_lo (div_lo h)) (div_hi (div_hi l))
    exact form_4 (k := 1024) (j := 16) rfl rfl h e.1 e.2
  · have l : c < 1048576 := next 8 _ u rfl (by decide)
    have e := dig_f (q := c / 64 / 64) (div_lo (div_lo h)) (div_hi (div_hi l))
    exact form_4 (k := 4096) (j := 64) rfl rfl (le h (by decide)) e.1 e.2
  · have e := dig_g (q := c / 64 / 64) (div_lo (div_lo h)) (div_hi (div_hi (lt_top t)))
    exact form_4 (k := 16384) (j := 256) rfl rfl (le h (by decide)) e.1 e.2
end Mine

namespace Mine
open PySem PySem.W PySem.Calls PyProof.Rows PySem.SeqAt

noncomputable def octsOk (l : List Int) (n : Nat) : Prop := (∀ x ∈ l, 0 ≤ x ∧ x < 256) ∧ l.length ≤ n
theorem mod256 (x : Int) : 0 ≤ x % 256 ∧ x % 256 < 256 := ⟨Int.emod_nonneg _ (by decide), Int.emod_lt_of_pos _ (by decide)⟩

section
variable {F : FTab} {σ : List Slot} {a b c : Mine.X}
theorem e_uptoL {l : List Int} {k : Int} (ha : evE F σ none a = some (.lst (l.map .int))) (hb : evE F σ none b = some (.int k)) (h0 : 0 ≤ k) (hl : l.length ≤ big) : evE F σ none (.upto a b) = some (.lst ((l.take k.toNat).map .int)) := by
  refine e_upto ha hb ?_
  simp only [evCut, Option.getD_none, Option.getD_some, cutL]
  rw [if_pos ⟨by decide, h0, by rw [List.length_map]; exact hl⟩]
  simp [List.map_take]
theorem e_fromL {l : List Int} {k : Int} (ha : evE F σ none a = some (.lst (l.map .int))) (hb : evE F σ none b = some (.int k)) (h0 : 0 ≤ k) (hl : l.length ≤ big) : evE F σ none (.from_ a b) = some (.lst ((l.drop k.toNat).map .int)) := by
  refine e_from ha hb ?_
  simp only [evCut, Option.getD_none, Option.getD_some, cutL]
  rw [if_pos ⟨h0, by decide, by rw [List.length_map]; exact hl⟩]
  simp [List.map_drop]
theorem e_catL {l m : List Int} (ha : evE F σ none a = some (.lst (l.map .int))) (hb : evE F σ none b = some (.lst (m.map .int))) (hl : l.length + m.length ≤ big) : evE F σ none (.bin .add a b) = some (.lst ((l ++ m).map .int)) := by
  rw [List.map_append]
  exact e_cat ha hb (by rw [List.length_map, List.length_map]; exact hl)
theorem e_lenL {cv : Option D} {l : List Int} (ha : evE F σ cv a = some (.lst (l.map .int))) (hl : l.length ≤ big) : evE F σ cv (.prim .len [a]) = some (.int l.length) := by
  have := p_len (l := l.map D.int) (by rw [List.length_map]; exact hl)
  rw [List.length_map] at this
  exact e_prim (e_args ha e_args0) this
end

section
variable {form : List Int} {number : Int} {nth : Nat}
noncomputable def σ14 (form : List Int) (number : Int) (nth : Nat) (z : Slot) : List Slot := [.val (.lst (form.map .int)), .val (.int number), .val (.int nth), .val (.int ((number + nth) % 5)), .val (.int (number / 5)), z]

theorem F_spoiled {i : Nat} (hi : 14 < i) (hf : octsOk form 4) (h1 : 1 ≤ form.length) : ∃ l, Fn 5000 i 14 [.lst (form.map .int), .int number, .int nth] = some (.lst (l.map .int)) ∧ octsOk l 5 := by
  suffices h : ∃ l, exS (Fn 5000 14) 5000 [.val (.lst (form.map .int)), .val (.int number), .val (.int nth), .no, .no, .no] P_law_spoiled = some (.ret (.lst (l.map .int))) ∧ octsOk l 5 by
    obtain ⟨l, h, ho⟩ := h
    exact ⟨l, F_ret hi rfl h, ho⟩
  obtain ⟨hr, hl4⟩ := hf
  have hlb : form.length ≤ big := by unfold big; omega
  have s1 : exX (Fn 5000 14) 5000 [.val (.lst (form.map .int)), .val (.int number), .val (.int nth), .no, .no, .no] (.assign 3 (.bin .mod (.bin .add (.var 1) (.var 2)) (.int 5))) = some (.next [.val (.lst (form.map .int)), .val (.int number), .val (.int nth), .val (.int ((number + nth) % 5)), .no, .no]) :=
    s_assign (e_mod (e_add (e_var rfl) (e_var rfl)) (e_int 5) (by decide))
  have s2 : exX (Fn 5000 14) 5000 [.val (.lst (form.map .int)), .val (.int number), .val (.int nth), .val (.int ((number + nth) % 5)), .no, .no] (.assign 4 (.bin .fdiv (.var 1) (.int 5))) = some (.next (σ14 form number nth .no)) :=
    s_assign (e_fdiv (e_var rfl) (e_int 5) (by decide))
  have t : ∀ (n : Int) (z : Slot), evE (Fn 5000 14) (σ14 form number nth z) none (.cmp (.var 3) [.eq] [.int n]) = some (.bool (decide ((number + nth) % 5 = n))) := fun n z => e_eqi (e_var rfl) (e_int n)
  have no : ∀ {n : Int} {b : List XS}, ¬ (number + nth) % 5 = n → exX (Fn 5000 14) 5000 (σ14 form number nth .no) (.ite (.cmp (.var 3) [.eq] [.int n]) b []) = some (.next (σ14 form number nth .no)) := fun {n b} h => (s_ite_f (by rw [t, decide_eq_false h])).trans exS_nil
  have yes : ∀ {n : Int} {b : List XS} {d : D}, (number + nth) % 5 = n → exS (Fn 5000 14) 5000 (σ14 form number nth .no) b = some (.ret d) → exX (Fn 5000 14) 5000 (σ14 form number nth .no) (.ite (.cmp (.var 3) [.eq] [.int n]) b []) = some (.ret d) := fun {n b d} h k => (s_ite_t (by rw [t, decide_eq_true h])).trans k
  have vf : ∀ z, evE (Fn 5000 14) (σ14 form number nth z) none (.var 0) = some (.lst (form.map .int)) := fun z => e_var rfl
  have vr : ∀ z cv, evE (Fn 5000 14) (σ14 form number nth z) cv (.var 4) = some (.int (number / 5)) := fun z cv => e_var rfl
  have lenp : 0 < (form.length : Int) := by omega
  have lenb : (form.length : Int) < 1073741824 := by omega
  by_cases c1 : (number + nth) % 5 = 1
  · have m0 := Int.emod_nonneg (number / 5) (show (form.length : Int) ≠ 0 by omega)
    have m1 := Int.emod_lt_of_pos (number / 5) lenp
    refine ⟨form.take ((form.length : Int) - 1 - number / 5 % (form.length : Int)).toNat, exS_cons s1 (exS_cons s2 (exS_ret (yes c1 (exS_ret (s_ret (e_uptoL (vf _) (e_sub (e_sub (e_lenL (vf _) hlb) (e_int 1)) (e_mod (vr _ _) (e_lenL (vf _) hlb) ⟨lenp, lenb⟩)) (by omega) hlb)))))), fun x hx => hr x (List.mem_of_mem_take hx), ?_⟩
    rw [List.length_take]; omega
  by_cases c2 : (number + nth) % 5 = 2
  · have m0 := Int.emod_nonneg (number / 5 / 256) (show (form.length : Int) ≠ 0 by omega)
    have m1 := Int.emod_lt_of_pos (number / 5 / 256) lenp
    refine ⟨form.take (number / 5 / 256 % (form.length : Int)).toNat ++ [number / 5 % 256] ++ form.drop (number / 5 / 256 % (form.length : Int) + 1).toNat, exS_cons s1 (exS_cons s2 (exS_cons (no c1) (exS_ret (yes c2 (exS_cons (σ' := σ14 form number nth (.val (.int (number / 5 / 256 % (form.length : Int))))) (s_assign (e_mod (e_fdiv (vr _ _) (e_int 256) (by decide)) (e_lenL (vf _) hlb) ⟨lenp, lenb⟩)) (exS_ret (s_ret (e_catL (e_catL (l := form.take (number / 5 / 256 % (form.length : Int)).toNat) (m := [number / 5 % 256]) (e_uptoL (vf _) (e_var rfl) m0 hlb) (e_lst (e_args (e_mod (vr _ _) (e_int 256) (by decide)) e_args0)) ?_) (e_fromL (vf _) (e_add (e_var rfl) (e_int 1)) (by omega) hlb) ?_)))))))), ?_, ?_⟩
    · rw [List.length_take]; simp only [List.length_cons, List.length_nil]; unfold big; omega
    · rw [List.length_append, List.length_take, List.length_drop]; simp only [List.length_cons, List.length_nil]; unfold big; omega
    · intro x hx
      rw [List.mem_append, List.mem_append] at hx
      rcases hx with (hx | hx) | hx
      · exact hr x (List.mem_of_mem_take hx)
      · rw [List.mem_singleton] at hx; subst hx; exact mod256 _
      · exact hr x (List.mem_of_mem_drop hx)
    · rw [List.length_append, List.length_append, List.length_take, List.length_drop]; simp only [List.length_cons, List.length_nil]; omega
  by_cases c3 : (number + nth) % 5 = 3
  · refine ⟨[number / 5 % 256] ++ form, exS_cons s1 (exS_cons s2 (exS_cons (no c1) (exS_cons (no c2) (exS_ret (yes c3 (exS_ret (s_ret (e_catL (l := [number / 5 % 256]) (e_lst (e_args (e_mod (vr _ _) (e_int 256) (by decide)) e_args0)) (vf _) ?_)))))))), ?_, ?_⟩
    · simp only [List.length_cons, List.length_nil]; unfold big; omega
    · intro x hx
      rw [List.mem_append] at hx
      rcases hx with hx | hx
      · rw [List.mem_singleton] at hx; subst hx; exact mod256 _
      · exact hr x hx
    · simp only [List.length_append, List.length_cons, List.length_nil]; omega
  by_cases c4 : (number + nth) % 5 = 4
  · have m0 := Int.emod_nonneg (number / 5 / 16777216) (show (3 : Int) ≠ 0 by omega)
    have m1 := Int.emod_lt_of_pos (number / 5 / 16777216) (show (0 : Int) < 3 by omega)
    generalize hN : number / 5 / 16777216 % 3 = N at *
    have pw : ∀ {cv : Option D} {x : Mine.X} {k : Nat}, evE (Fn 5000 14) (σ14 form number nth .no) cv x = some (.int k) → k ≤ 3 → evE (Fn 5000 14) (σ14 form number nth .no) cv (.bin .pow (.int 256) x) = some (.int ((256 ^ k : Nat) : Int)) := fun {cv x k} h hk => by
      refine e_bin (e_int 256) h ?_
      simp only [evBin]
      rw [if_pos (by omega)]
      simp
    have hp3 : (256 ^ 3 : Nat) = 16777216 := by decide
    have src : evE (Fn 5000 14) (σ14 form number nth .no) none (.prim .range [.bin .add (.int 1) (.bin .mod (.bin .fdiv (.var 4) (.bin .pow (.int 256) (.int 3))) (.int 3))]) = some (.range 0 (1 + N) 1) := by
      have h3 := pw (cv := none) (x := .int 3) (k := 3) (e_int 3) (by omega)
      rw [hp3] at h3
      refine e_prim (e_args (e_add (e_int 1) (e_mod (e_fdiv (vr _ _) h3 (by decide)) (e_int 3) (by decide))) e_args0) ?_
      show evPrim .range [.int (1 + number / 5 / 16777216 % 3)] = _
      rw [hN]
      rfl
    have hrg := rangeOk_small (a := 0) (b := 1 + N) (c := 1) (by omega) (by omega) (.inl rfl)
    have hn : rangeNum 0 (1 + N) 1 = (1 + N).toNat := by
      unfold rangeNum Builtin.Range.rangeSize
      rw [if_pos (by omega), if_pos (by omega), Int.ediv_one]
      congr 1; omega
    have hcomp : compL (fun d => evE (Fn 5000 14) (σ14 form number nth .no) (some d) (.bin .mod (.bin .fdiv (.var 4) (.bin .pow (.int 256) (.cvar))) (.int 256))) ((List.range (1 + N).toNat).map fun i : Nat => .int ((0 : Int) + (i : Int) * 1)) =
        some (((List.range (1 + N).toNat).map fun k : Nat => number / 5 / ((256 ^ k : Nat) : Int) % 256).map .int) := by
      have e : ((List.range (1 + N).toNat).map fun i : Nat => D.int ((0 : Int) + (i : Int) * 1)) = ((List.range (1 + N).toNat).map fun i : Nat => (i : Int)).map D.int := by
        rw [List.map_map]; congr 1; funext i; simp
      rw [e, compL_ints (g := fun x : Int => D.int (number / 5 / ((256 ^ x.toNat : Nat) : Int) % 256)) (fun _ => rfl)]
      · rw [List.map_map, List.map_map]; rfl
      · intro x hx
        obtain ⟨k, hk, rfl⟩ := List.mem_map.mp hx
        rw [List.mem_range] at hk
        have hk3 : k ≤ 2 := by omega
        have hpos : 0 < 256 ^ k := Nat.pow_pos (by decide)
        have hle : 256 ^ k ≤ 256 ^ 2 := Nat.pow_le_pow_right (by decide) hk3
        have h22 : (256 ^ 2 : Nat) = 65536 := by decide
        rw [Int.toNat_natCast]
        exact e_mod (e_fdiv (vr _ _) (pw (x := .cvar) e_cvar (by omega)) (by omega)) (e_int 256) (by decide)
    refine ⟨(List.range (1 + N).toNat).map fun k : Nat => number / 5 / ((256 ^ k : Nat) : Int) % 256, exS_cons s1 (exS_cons s2 (exS_cons (no c1) (exS_cons (no c2) (exS_cons (no c3) (exS_ret (yes c4 (exS_ret (s_ret (e_comp src (items_range hrg hn) hcomp))))))))), ?_, ?_⟩
    · intro x hx
      obtain ⟨k, hk, rfl⟩ := List.mem_map.mp hx
      exact mod256 _
    · rw [List.length_map, List.length_range]; omega
  · exact ⟨form, exS_cons s1 (exS_cons s2 (exS_cons (no c1) (exS_cons (no c2) (exS_cons (no c3) (exS_cons (no c4) (exS_ret (s_ret (vf _)))))))), hr, by omega⟩
end
end Mine

namespace Mine
open PySem PySem.W PySem.Calls PyProof.Rows PySem.SeqAt

noncomputable def dig (s : List Int) (k : Nat) : Int := s.getD k 0
section
variable {s : List Int}
theorem F_dig {i k : Nat} (hi : 11 < i) (hs : s.length ≤ 63) (hk : k < 100) : Fn 5000 i 11 [.lst (s.map .int), .int (k : Int)] = some (.int (dig s k)) := F_digit hi s k (by unfold big; omega) hk

/-! _law_units -/
noncomputable def edges16 : List Int := [55357, 56832, 65, 55296, 56320, 56319, 57343, 55295, 57344, 65279, 65534, 216, 65535, 0]
theorem edges16_in : ∀ x ∈ edges16, 0 ≤ x ∧ x ≤ 65535 := by decide
noncomputable def C16 : List XS := [
    .assign 4 (.call 11 [.var 0, .bin .add (.int 9) (.var 3)]),
    .append 2 (.ife (.cmp (.bin .mod (.var 4) (.int 2)) [.eq] [.int 0]) (.item (.var 1) (.bin .mod (.bin .add (.bin .fdiv (.var 4) (.int 2)) (.var 3)) (.int 14))) (.bin .mod (.bin .fdiv (.var 4) (.int 2)) (.int 65536)))]
noncomputable def σu (s : List Int) (out : List Int) (a b : Slot) : List Slot := [.val (.lst (s.map .int)), .val (.lst (edges16.map .int)), .own (out.map .int), a, b]
noncomputable def unitsOk (l : List Int) : Prop := ∀ x ∈ l, 0 ≤ x ∧ x ≤ 65535

theorem loopU (hs : s.length ≤ 63) (ks : List Nat) : ∀ (out : List Int) (a b : Slot), (∀ k ∈ ks, k < 6) → unitsOk out → out.length + ks.length ≤ 100 →
    ∃ out' a' b', forL (turn (Fn 5000 16) 5000 (.one 3) C16) (ks.map fun i : Nat => .int ((0 : Int) + (i : Int) * 1)) (σu s out a b) = some (.next (σu s out' a' b')) ∧ unitsOk out' ∧ out'.length = out.length + ks.length := by
  induction ks with
  | nil => intro out a b _ ho _; exact ⟨out, a, b, rfl, ho, rfl⟩
  | cons k ks ih =>
    intro out a b hk ho hl
    have k6 := hk k List.mem_cons_self
    rw [List.length_cons] at hl
    have ek : (0 : Int) + (k : Int) * 1 = (k : Int) := by omega
    have e9 : (9 : Int) + (k : Int) = ((9 + k : Nat) : Int) := by omega
    have hs1 : setT (.one 3) (.int (k : Int)) (σu s out a b) = some (σu s out (.val (.int k)) b) := rfl
    have s1 : exX (Fn 5000 16) 5000 (σu s out (.val (.int k)) b) (.assign 4 (.call 11 [.var 0, .bin .add (.int 9) (.var 3)])) = some (.next (σu s out (.val (.int k)) (.val (.int (dig s (9 + k)))))) := by
      refine s_assign (e_call (e_args (e_var rfl) (e_args (e_add (e_int 9) (e_var (d := .int k) rfl)) e_args0)) ?_)
      rw [e9]
      exact F_dig (by omega) hs (by omega)
    generalize dig s (9 + k) = n at *
    have ht : evE (Fn 5000 16) (σu s out (.val (.int k)) (.val (.int n))) none (.cmp (.bin .mod (.var 4) (.int 2)) [.eq] [.int 0]) = some (.bool (decide (n % 2 = 0))) := e_eqi (e_mod (e_var rfl) (e_int 2) (by decide)) (e_int 0)
    have hu : ∃ u, evE (Fn 5000 16) (σu s out (.val (.int k)) (.val (.int n))) none (.ife (.cmp (.bin .mod (.var 4) (.int 2)) [.eq] [.int 0]) (.item (.var 1) (.bin .mod (.bin .add (.bin .fdiv (.var 4) (.int 2)) (.var 3)) (.int 14))) (.bin .mod (.bin .fdiv (.var 4) (.int 2)) (.int 65536))) = some (.int u) ∧ 0 ≤ u ∧ u ≤ 65535 := by
      by_cases q : n % 2 = 0
      · rw [decide_eq_true q] at ht
        have m0 := Int.emod_nonneg (n / 2 + k) (show (14 : Int) ≠ 0 by omega)
        have m1 := Int.emod_lt_of_pos (n / 2 + k) (show (0 : Int) < 14 by omega)
        have hlt : ((n / 2 + k) % 14).toNat < edges16.length := by show _ < 14; omega
        have hx : edges16[((n / 2 + k) % 14).toNat]? = some edges16[((n / 2 + k) % 14).toNat] := List.getElem?_eq_getElem hlt
        refine ⟨_, e_ife_t ht (e_item (x := .lst (edges16.map .int)) (e_var rfl) (e_mod (e_add (e_fdiv (e_var rfl) (e_int 2) (by decide)) (e_var (d := .int k) rfl)) (e_int 14) (by decide)) (i_lst (n := ((n / 2 + k) % 14).toNat) (by omega) (by unfold big; omega) (by rw [List.getElem?_map, hx]; rfl))), edges16_in _ (List.getElem_mem hlt)⟩
      · rw [decide_eq_false q] at ht
        have m0 := Int.emod_nonneg (n / 2) (show (65536 : Int) ≠ 0 by omega)
        have m1 := Int.emod_lt_of_pos (n / 2) (show (0 : Int) < 65536 by omega)
        exact ⟨n / 2 % 65536, e_ife_f ht (e_mod (e_fdiv (e_var rfl) (e_int 2) (by decide)) (e_int 65536) (by decide)), m0, by omega⟩
    obtain ⟨u, hu, u0, u1⟩ := hu
    obtain ⟨out', a', b', e, r1, r2⟩ := ih (out ++ [u]) (.val (.int k)) (.val (.int n)) (fun x hx => hk x (List.mem_cons_of_mem _ hx)) (fun x hx => by
      rcases List.mem_append.mp hx with h | h
      · exact ho x h
      · rw [List.mem_singleton] at h; subst h; exact ⟨u0, u1⟩) (by simp; omega)
    refine ⟨out', a', b', ?_, r1, by rw [r2]; simp; omega⟩
    rw [List.map_cons, ek]
    refine (fl_next ((turn_eq hs1).trans (exS_cons s1 (exS_one.trans (s_append (σ' := σu s (out ++ [u]) (.val (.int k)) (.val (.int n))) hu ?_))))).trans e
    simp only [evAppend, σu, List.getElem?_cons_succ, List.getElem?_cons_zero, List.length_cons, List.length_nil]
    rw [if_pos (by rw [List.length_map]; unfold big; omega), List.map_append]
    rfl

theorem F_units {i : Nat} (hi : 16 < i) (hs : s.length ≤ 63) : ∃ us, Fn 5000 i 16 [.lst (s.map .int)] = some (.lst (us.map .int)) ∧ unitsOk us ∧ us.length ≤ 6 := by
  suffices h : ∃ us, exS (Fn 5000 16) 5000 [.val (.lst (s.map .int)), .no, .no, .no, .no] P_law_units = some (.ret (.lst (us.map .int))) ∧ unitsOk us ∧ us.length ≤ 6 by
    obtain ⟨us, h, ho⟩ := h
    exact ⟨us, F_ret hi rfl h, ho⟩
  have s1 : exX (Fn 5000 16) 5000 [.val (.lst (s.map .int)), .no, .no, .no, .no] (.assign 1 (.lst [.int 55357, .int 56832, .int 65, .int 55296, .int 56320, .int 56319, .int 57343, .int 55295, .int 57344, .int 65279, .int 65534, .int 216, .int 65535, .int 0])) = some (.next [.val (.lst (s.map .int)), .val (.lst (edges16.map .int)), .no, .no, .no]) := rfl
  have s2 : exX (Fn 5000 16) 5000 [.val (.lst (s.map .int)), .val (.lst (edges16.map .int)), .no, .no, .no] (.newl 2) = some (.next (σu s [] .no .no)) := by simp [exX, σu]
  have hr := rangeOk_small (a := 0) (b := 6) (c := 1) (by omega) (by omega) (.inl rfl)
  have hn : rangeNum 0 6 1 = 6 := by decide
  obtain ⟨out', a', b', e, r1, r2⟩ := loopU hs (List.range 6) [] .no .no (fun k hk => List.mem_range.mp hk) (fun x hx => by cases hx) (by simp)
  have s3 : exX (Fn 5000 16) 5000 (σu s [] .no .no) (.for_ (.one 3) (.prim .range [.int 6]) C16) = some (.next (σu s out' a' b')) :=
    s_forT (d := .range 0 6 1) (e_prim (e_args (e_int 6) e_args0) rfl) (show itemsFor (.one 3) _ = _ from items_range hr hn) e
  have m0 := Int.emod_nonneg (dig s 15 / 512) (show (7 : Int) ≠ 0 by omega)
  have hfr : evE (Fn 5000 16) [.val (.lst (s.map .int)), .val (.lst (edges16.map .int)), .val (.lst (out'.map .int)), a', b'] none (.from_ (.var 2) (.bin .mod (.bin .fdiv (.call 11 [.var 0, .int 15]) (.int 512)) (.int 7))) = some (.lst ((out'.drop (dig s 15 / 512 % 7).toNat).map .int)) :=
    e_fromL (e_var rfl) (e_mod (e_fdiv (e_call (e_args (e_var rfl) (e_args (e_int 15) e_args0)) (F_dig (k := 15) (by omega) hs (by omega))) (e_int 512) (by decide)) (e_int 7) (by decide)) m0 (by simp at r2; unfold big; omega)
  refine ⟨out'.drop (dig s 15 / 512 % 7).toNat, exS_cons s1 (exS_cons s2 (exS_cons s3 (exS_cons (s_freeze rfl) (exS_ret (s_ret hfr))))), fun x hx => r1 x (List.mem_of_mem_drop hx), ?_⟩
  rw [List.length_drop]
  simp at r2
  omega
end

/-! _law_point -/
noncomputable def edgesP : List Int := [65279, 127, 128, 159, 160, 255, 256, 2047, 2048, 65535, 65536, 1114111, 55296, 57343] ++ [55295, 57344, 65533, 130, 56320, 4095, 4096, 262143, 262144]
theorem edgesP_in : ∀ x ∈ edgesP, 0 ≤ x ∧ x ≤ 1114111 := by decide
theorem winMid_in : ∀ x ∈ winMid, 0 ≤ x ∧ x ≤ 1114111 := by decide
noncomputable def σp (number nth : Int) : List Slot := [.val (.int number), .val (.int nth), .val (.int ((number + nth) % 4)), .val (.int (number / 4)), .val (.lst (edgesP.map .int))]
theorem F_point {i : Nat} (hi : 19 < i) (number nth : Int) : ∃ p, Fn 5000 i 19 [.int number, .int nth] = some (.int p) ∧ 0 ≤ p ∧ p ≤ 1114111 := by
  suffices h : ∃ p, exS (Fn 5000 19) 5000 [.val (.int number), .val (.int nth), .no, .no, .no] P_law_point = some (.ret (.int p)) ∧ 0 ≤ p ∧ p ≤ 1114111 by
    obtain ⟨us, h, ho⟩ := h
    exact ⟨us, F_ret hi rfl h, ho⟩
  have s1 : exX (Fn 5000 19) 5000 [.val (.int number), .val (.int nth), .no, .no, .no] (.assign 2 (.bin .mod (.bin .add (.var 0) (.var 1)) (.int 4))) = some (.next [.val (.int number), .val (.int nth), .val (.int ((number + nth) % 4)), .no, .no]) :=
    s_assign (e_mod (e_add (e_var rfl) (e_var rfl)) (e_int 4) (by decide))
  have s2 : exX (Fn 5000 19) 5000 [.val (.int number), .val (.int nth), .val (.int ((number + nth) % 4)), .no, .no] (.assign 3 (.bin .fdiv (.var 0) (.int 4))) = some (.next [.val (.int number), .val (.int nth), .val (.int ((number + nth) % 4)), .val (.int (number / 4)), .no]) :=
    s_assign (e_fdiv (e_var rfl) (e_int 4) (by decide))
  have s3 : exX (Fn 5000 19) 5000 [.val (.int number), .val (.int nth), .val (.int ((number + nth) % 4)), .val (.int (number / 4)), .no] (.assign 4 (.lst [.int 65279, .int 127, .int 128, .int 159, .int 160, .int 255, .int 256, .int 2047, .int 2048, .int 65535, .int 65536, .int 1114111, .int 55296, .int 57343])) =
      some (.next [.val (.int number), .val (.int nth), .val (.int ((number + nth) % 4)), .val (.int (number / 4)), .val (.lst (([65279, 127, 128, 159, 160, 255, 256, 2047, 2048, 65535, 65536, 1114111, 55296, 57343] : List Int).map .int))]) := rfl
  have s4 : exX (Fn 5000 19) 5000 [.val (.int number), .val (.int nth), .val (.int ((number + nth) % 4)), .val (.int (number / 4)), .val (.lst (([65279, 127, 128, 159, 160, 255, 256, 2047, 2048, 65535, 65536, 1114111, 55296, 57343] : List Int).map .int))]
      (.assign 4 (.bin .add (.var 4) (.lst [.int 55295, .int 57344, .int 65533, .int 130, .int 56320, .int 4095, .int 4096, .int 262143, .int 262144]))) = some (.next (σp number nth)) :=
    s_assign (e_catL (m := [55295, 57344, 65533, 130, 56320, 4095, 4096, 262143, 262144]) (e_var rfl) rfl (by decide))
  have t : ∀ (n : Int), evE (Fn 5000 19) (σp number nth) none (.cmp (.var 2) [.eq] [.int n]) = some (.bool (decide ((number + nth) % 4 = n))) := fun n => e_eqi (e_var rfl) (e_int n)
  have no : ∀ {n : Int} {b : List XS}, ¬ (number + nth) % 4 = n → exX (Fn 5000 19) 5000 (σp number nth) (.ite (.cmp (.var 2) [.eq] [.int n]) b []) = some (.next (σp number nth)) := fun {n b} h => (s_ite_f (by rw [t, decide_eq_false h])).trans exS_nil
  have yes : ∀ {n : Int} {b : List XS} {d : D}, (number + nth) % 4 = n → exS (Fn 5000 19) 5000 (σp number nth) b = some (.ret d) → exX (Fn 5000 19) 5000 (σp number nth) (.ite (.cmp (.var 2) [.eq] [.int n]) b []) = some (.ret d) := fun {n b d} h k => (s_ite_t (by rw [t, decide_eq_true h])).trans k
  have v3 : evE (Fn 5000 19) (σp number nth) none (.var 3) = some (.int (number / 4)) := e_var rfl
  suffices h : ∃ p, exS (Fn 5000 19) 5000 (σp number nth) (P_law_point.drop 4) = some (.ret (.int p)) ∧ 0 ≤ p ∧ p ≤ 1114111 by
    obtain ⟨p, h, ho⟩ := h
    exact ⟨p, exS_cons s1 (exS_cons s2 (exS_cons s3 (exS_cons s4 h))), ho⟩
  by_cases c1 : (number + nth) % 4 = 0
  · have m0 := Int.emod_nonneg (number / 4) (show (32 : Int) ≠ 0 by omega)
    have m1 := Int.emod_lt_of_pos (number / 4) (show (0 : Int) < 32 by omega)
    have hlt : (number / 4 % 32).toNat < winMid.length := by show _ < 32; omega
    have hx : winMid[(number / 4 % 32).toNat]? = some winMid[(number / 4 % 32).toNat] := List.getElem?_eq_getElem hlt
    exact ⟨_, exS_ret (yes c1 (exS_ret (s_ret (e_item (e_call e_args0 (F_windows (by omega))) (e_mod v3 (e_int 32) (by decide)) (i_lst (n := (number / 4 % 32).toNat) (by omega) (by unfold big; omega) (by rw [List.getElem?_map, hx]; rfl)))))), winMid_in _ (List.getElem_mem hlt)⟩
  by_cases c2 : (number + nth) % 4 = 1
  · have m0 := Int.emod_nonneg (number / 4) (show (130 : Int) ≠ 0 by omega)
    have m1 := Int.emod_lt_of_pos (number / 4) (show (0 : Int) < 130 by omega)
    exact ⟨63359 + number / 4 % 130, exS_cons (no c1) (exS_ret (yes c2 (exS_ret (s_ret (e_add (e_int 63359) (e_mod v3 (e_int 130) (by decide))))))), by omega, by omega⟩
  by_cases c3 : (number + nth) % 4 = 2
  · have m0 := Int.emod_nonneg (number / 4) (show (23 : Int) ≠ 0 by omega)
    have m1 := Int.emod_lt_of_pos (number / 4) (show (0 : Int) < 23 by omega)
    have hlt : (number / 4 % 23).toNat < edgesP.length := by show _ < 23; omega
    have hx : edgesP[(number / 4 % 23).toNat]? = some edgesP[(number / 4 % 23).toNat] := List.getElem?_eq_getElem hlt
    have vE : evE (Fn 5000 19) (σp number nth) none (.var 4) = some (.lst (edgesP.map .int)) := e_var rfl
    have hlen : evE (Fn 5000 19) (σp number nth) none (.prim .len [.var 4]) = some (.int 23) := e_lenL vE (by decide)
    exact ⟨_, exS_cons (no c1) (exS_cons (no c2) (exS_ret (yes c3 (exS_ret (s_ret (e_item vE (e_mod v3 hlen (by decide)) (i_lst (n := (number / 4 % 23).toNat) (by omega) (by unfold big; omega) (by rw [List.getElem?_map, hx]; rfl)))))))), edgesP_in _ (List.getElem_mem hlt)⟩
  · have m0 := Int.emod_nonneg (number / 4) (show (1114112 : Int) ≠ 0 by omega)
    have m1 := Int.emod_lt_of_pos (number / 4) (show (0 : Int) < 1114112 by omega)
    exact ⟨number / 4 % 1114112, exS_cons (no c1) (exS_cons (no c2) (exS_cons (no c3) (exS_ret (s_ret (e_mod v3 (e_int 1114112) (by decide)))))), m0, by omega⟩
end Mine

namespace Mine
open PySem PySem.W PySem.Calls PyProof.Rows PySem.SeqAt

/-- a sign's octets are read back -/
noncomputable def okC (c : Int) : Prop := 0 ≤ c ∧ c ≤ 1114111 ∧ ¬ (55296 ≤ c ∧ c ≤ 57343)
theorem lead_2 : ∀ a : Nat, a < 32 → 2 ≤ a → leadS (192 + (a : Int)) = (1, (a : Int), 128, 191) := by decide
theorem lead_3 : ∀ a : Nat, a < 16 → leadS (224 + (a : Int)) = (2, (a : Int), if a = 0 then 160 else 128, if a = 13 then 159 else 191) := by decide
theorem lead_4 : ∀ a : Nat, a < 5 → leadS (240 + (a : Int)) = (3, (a : Int), if a = 0 then 144 else 128, if a = 4 then 143 else 191) := by decide
theorem mod64 (q : Int) : 0 ≤ q % 64 ∧ q % 64 < 64 := ⟨Int.emod_nonneg _ (by decide), Int.emod_lt_of_pos _ (by decide)⟩
theorem back64 (q : Int) : q / 64 * 64 + q % 64 = q := by omega
theorem mod_tail {d : Int} (h : 0 ≤ d ∧ d < 64) : (128 + d) % 64 = d := by omega
theorem hi_tail {d : Int} (h : 0 ≤ d ∧ d < 64) : 128 ≤ 128 + d ∧ 128 + d ≤ 191 := by omega
theorem m8_start {x n c lo hi : Int} {r : List Int} (h : leadS x = (n, c, lo, hi)) (hn : 0 < n) : m8 0 0 128 191 (x :: r) = m8 n c lo hi r := by
  rw [m8_lead, h]
  exact (congrArg (· ++ _) (if_neg (Int.ne_of_gt hn))).trans (List.nil_append _)
theorem m8_tail {n c lo hi d : Int} {r : List Int} (hn : 1 < n) (hd : 0 ≤ d ∧ d < 64) (h : lo ≤ 128 + d ∧ 128 + d ≤ hi) : m8 n c lo hi ((128 + d) :: r) = m8 (n - 1) (c * 64 + d) 128 191 r := by
  rw [m8_ok (Int.lt_trans (by decide) hn) h, if_neg (Int.ne_of_gt hn), List.nil_append, mod_tail hd]
theorem m8_last {c lo hi d : Int} {r : List Int} (hd : 0 ≤ d ∧ d < 64) (h : lo ≤ 128 + d ∧ 128 + d ≤ hi) : m8 1 c lo hi ((128 + d) :: r) = (c * 64 + d).toNat :: m8 0 0 128 191 r := by
  rw [m8_ok (by decide) h, if_pos rfl, mod_tail hd]
  exact congrArg _ (m8_zero _ _ _ _)
theorem low_3 {q : Int} (h : 32 ≤ q) (e : q / 64 = 0) : 160 ≤ 128 + q % 64 := by omega
theorem high_3 {q : Int} (h : q < 864 ∨ 896 ≤ q) (e : q / 64 = 13) : 128 + q % 64 ≤ 159 := by omega
theorem low_4 {q : Int} (h : 16 ≤ q) (e : q / 64 = 0) : 144 ≤ 128 + q % 64 := by omega
theorem high_4 {q : Int} (h : q < 272) (e : q / 64 = 4) : 128 + q % 64 ≤ 143 := by omega
theorem no_sur {c : Int} (h : ¬ (55296 ≤ c ∧ c ≤ 57343)) : c / 64 < 864 ∨ 896 ≤ c / 64 := by omega
theorem in_if {p q : Prop} [Decidable p] [Decidable q] {a b x y v : Int} (hv : b ≤ v ∧ v ≤ y) (h1 : p → a ≤ v) (h2 : q → v ≤ x) : (if p then a else b) ≤ v ∧ v ≤ (if q then x else y) := by
  constructor
  · by_cases h : p
    · rw [if_pos h]; exact h1 h
    · rw [if_neg h]; exact hv.1
  · by_cases h : q
    · rw [if_pos h]; exact h2 h
    · rw [if_neg h]; exact hv.2
theorem nat_of {q : Int} {n : Nat} (h : 0 ≤ q) (h' : q < n) : ∃ a : Nat, q = a ∧ a < n := by
  obtain ⟨a, rfl⟩ := Int.eq_ofNat_of_zero_le h
  exact ⟨a, rfl, Int.ofNat_lt.mp h'⟩
theorem m8_sign {c : Int} (h : okC c) (r : List Int) : m8 0 0 128 191 (u8S c ++ r) = c.toNat :: m8 0 0 128 191 r := by
  obtain ⟨h0, h1, h2⟩ := h
  by_cases c1 : c < 128
  · have hl : leadS c = (0, c, 128, 191) := if_pos (Int.le_of_lt_add_one c1)
    rw [u8S_1 c1, List.cons_append, List.nil_append, m8_lead, hl]
    exact congrArg _ (m8_zero _ _ _ _)
  have c1' := Int.not_lt.mp c1
  by_cases c2 : c < 2048
  · rw [u8S_2 c1' c2]
    have l1 : (2 : Int) ≤ c / 64 := div_lo c1'
    have l2 : c / 64 < (32 : Nat) := div_hi c2
    obtain ⟨a, e, ha⟩ := nat_of (Int.le_trans (by decide) l1) l2
    have l3 : 2 ≤ a := by rw [e] at l1; exact Int.ofNat_le.mp l1
    rw [List.cons_append, List.cons_append, List.nil_append, e, m8_start (lead_2 a ha l3) (by decide), m8_last (mod64 c) (hi_tail (mod64 c)), ← e, back64]
  have c2' := Int.not_lt.mp c2
  by_cases c3 : c < 65536
  · rw [u8S_3 c2' c3]
    have q1 : (32 : Int) ≤ c / 64 := div_lo c2'
    have q2 : c / 64 / 64 < (16 : Nat) := div_hi (div_hi c3)
    obtain ⟨a, e, ha⟩ := nat_of (Int.le_trans (by decide) (div_lo (k := 0) (Int.le_trans (by decide) q1))) q2
    have hr := no_sur h2
    rw [List.cons_append, List.cons_append, List.cons_append, List.nil_append, e, m8_start (lead_3 a ha) (by decide), m8_tail (by decide) (mod64 _) (in_if (hi_tail (mod64 _)) (fun z => low_3 q1 (by rw [e, z]; rfl)) (fun z => high_3 hr (by rw [e, z]; rfl))),
      ← e, back64, show (2 : Int) - 1 = 1 from rfl, m8_last (mod64 c) (hi_tail (mod64 c)), back64]
  have c3' := Int.not_lt.mp c3
  rw [u8S_4 c3']
  have q1 : (16 : Int) ≤ c / 64 / 64 := div_lo (div_lo c3')
  have q3 : c / 64 / 64 < 272 := div_hi (div_hi (lt_top h1))
  have q2 : c / 64 / 64 / 64 < (5 : Nat) := div_hi (Int.lt_trans q3 (by decide))
  obtain ⟨a, e, ha⟩ := nat_of (Int.le_trans (by decide) (div_lo (k := 0) (Int.le_trans (by decide) q1))) q2
  rw [List.cons_append, List.cons_append, List.cons_append, List.cons_append, List.nil_append, e, m8_start (lead_4 a ha) (by decide), m8_tail (by decide) (mod64 _) (in_if (hi_tail (mod64 _)) (fun z => low_4 q1 (by rw [e, z]; rfl)) (fun z => high_4 q3 (by rw [e, z]; rfl))),
    ← e, back64, show (3 : Int) - 1 = 2 from rfl, m8_tail (by decide) (mod64 _) (hi_tail (mod64 _)), back64, show (2 : Int) - 1 = 1 from rfl, m8_last (mod64 c) (hi_tail (mod64 c)), back64]
theorem m8_signs : ∀ (ps : List Int), (∀ c ∈ ps, okC c) → m8 0 0 128 191 (ps.flatMap u8S) = ps.map Int.toNat
  | [], _ => by simp [m8]
  | c :: ps, h => by rw [List.flatMap_cons, m8_sign (h c List.mem_cons_self), m8_signs ps fun x hx => h x (List.mem_cons_of_mem _ hx), List.map_cons]
theorem bom8_signs {c : Int} {ps : List Int} (h : okC c) : ((c :: ps).flatMap u8S).take 3 = [239, 187, 191] ↔ c = 65279 := by
  obtain ⟨h0, h1, h2⟩ := h
  rw [List.flatMap_cons]
  constructor
  · intro e
    unfold u8S at e
    split at e
    · simp at e; omega
    · split at e
      · simp at e; omega
      · split at e
        · simp at e; omega
        · simp at e; omega
  · rintro rfl
    simp [u8S]
theorem back_signs {c : Int} {ps : List Int} (h : ∀ x ∈ c :: ps, okC x) : m8 0 0 128 191 (bom8 ((c :: ps).flatMap u8S)) = (if c = 65279 then ps else c :: ps).map Int.toNat := by
  have hb := bom8_signs (ps := ps) (h c List.mem_cons_self)
  unfold bom8
  by_cases q : c = 65279
  · rw [if_pos (hb.mpr q), if_pos q, List.flatMap_cons, q, show u8S 65279 = [239, 187, 191] from by decide]
    show m8 0 0 128 191 (ps.flatMap u8S) = _
    exact m8_signs ps fun x hx => h x (List.mem_cons_of_mem _ hx)
  · rw [if_neg fun z => q (hb.mp z), if_neg q]
    exact m8_signs _ h

/-! the row of a point -/
theorem last_max {l : List (Int × List (Int × Int))} (hs : l.Pairwise fun a b => a.1 < b.1) {r : Int × List (Int × Int)} (hr : l.getLast? = some r) : ∀ x ∈ l, x.1 ≤ r.1 := by
  rcases List.eq_nil_or_concat l with rfl | ⟨ws, p, rfl⟩
  · cases hr
  · rw [List.concat_eq_append] at *
    rw [List.getLast?_append] at hr
    simp at hr
    subst hr
    intro x hx
    rcases List.mem_append.mp hx with h | h
    · have := (List.pairwise_append.mp hs).2.2 x h p (List.mem_singleton.mpr rfl)
      omega
    · rw [List.mem_singleton] at h; rw [h]; exact Int.le_refl _
theorem rows_sorted : rows9.Pairwise fun a b => a.1 < b.1 := by unfold rows9; simp
theorem row_of {c : Int} (h0 : 0 ≤ c) : ∃ row ∈ rows9, (rows9.filter fun r => decide (r.1 ≤ c)).getLast? = some row ∧ row.1 ≤ c ∧ ∀ r2 ∈ rows9, row.1 < r2.1 → c < r2.1 := by
  have hne : (rows9.filter fun r => decide (r.1 ≤ c)) ≠ [] := fun q => by
    have hm : ((0, [(0, 128)]) : Int × List (Int × Int)) ∈ rows9.filter fun r => decide (r.1 ≤ c) := List.mem_filter.mpr ⟨by simp [rows9], by simpa using h0⟩
    rw [q] at hm; cases hm
  have hl := List.getLast?_eq_some_getLast hne
  have hmem := List.getLast_mem hne
  generalize (rows9.filter fun r => decide (r.1 ≤ c)).getLast hne = row at *
  obtain ⟨m1, m2⟩ := List.mem_filter.mp hmem
  refine ⟨row, m1, hl, by simpa using m2, fun r2 hr2 hlt => ?_⟩
  rcases Int.lt_or_le c r2.1 with q | q
  · exact q
  · have := last_max (rows_sorted.filter _) hl r2 (List.mem_filter.mpr ⟨hr2, by simpa using q⟩)
    omega
theorem filtL_rows {f : D → Option D} {c : Int} (hf : ∀ r ∈ rows9, f (dRow r) = some (.bool (decide (r.1 ≤ c)))) : filtL f (rows9.map dRow) = some ((rows9.filter fun r => decide (r.1 ≤ c)).map dRow) := by
  have : ∀ l : List (Int × List (Int × Int)), (∀ r ∈ l, f (dRow r) = some (.bool (decide (r.1 ≤ c)))) → filtL f (l.map dRow) = some ((l.filter fun r => decide (r.1 ≤ c)).map dRow) := by
    intro l
    induction l with
    | nil => intro _; rfl
    | cons r l ih =>
      intro h
      have ih := ih fun x hx => h x (List.mem_cons_of_mem _ hx)
      rw [List.map_cons, filtL, h r List.mem_cons_self, List.filter_cons]
      by_cases q : r.1 ≤ c
      · simp only [decide_eq_true q, ih, if_true, List.map_cons]
      · simp only [decide_eq_false q, ih, Bool.false_eq_true, if_false]
  exact this rows9 hf

theorem compL_ex {f : D → Option D} {P : Int → Prop} : ∀ (l : List D), (∀ d ∈ l, ∃ p : Int, f d = some (.int p) ∧ P p) → ∃ ps : List Int, compL f l = some (ps.map .int) ∧ (∀ p ∈ ps, P p) ∧ ps.length = l.length
  | [], _ => ⟨[], rfl, by simp, rfl⟩
  | d :: l, h => by
    obtain ⟨p, hp, hP⟩ := h d List.mem_cons_self
    obtain ⟨ps, e, a, b⟩ := compL_ex l fun x hx => h x (List.mem_cons_of_mem _ hx)
    refine ⟨p :: ps, ?_, fun x hx => ?_, by simp [b]⟩
    · simp only [compL, hp, scalar, if_true, e, List.map_cons]
    · rcases List.mem_cons.mp hx with rfl | hx
      · exact hP
      · exact a x hx
theorem p_bytes {l : List Int} {n : Nat} (h : octsOk l n) (hn : n ≤ 1000) : evPrim .bytes [.lst (l.map .int)] = some (.bytes l) := by
  obtain ⟨h1, h2⟩ := h
  simp only [evPrim]
  rw [if_pos (by rw [List.length_map]; unfold big; omega), intsOf_map]
  simp only
  rw [if_pos]
  rw [List.all_eq_true]
  intro x hx
  simp [h1 x hx]
theorem e_neS {F : FTab} {σ : List Slot} {a b : Mine.X} {x : List Nat} (ha : evE F σ none a = some (.str x)) (hb : evE F σ none b = some (.str x)) : evE F σ none (.cmp a [.ne] [b]) = some (.bool false) :=
  e_cmp1 ha hb (by simp only [evCmp, evEq, Option.map_some, beq_self_eq_true, Bool.not_true])
theorem e_neB {F : FTab} {σ : List Slot} {a b : Mine.X} {x : List Int} (ha : evE F σ none a = some (.bytes x)) (hb : evE F σ none b = some (.bytes x)) : evE F σ none (.cmp a [.ne] [b]) = some (.bool false) :=
  e_cmp1 ha hb (by simp only [evCmp, evEq, Option.map_some, beq_self_eq_true, Bool.not_true])
theorem s_no {F : FTab} {wf : Nat} {σ : List Slot} {a : Mine.X} {b : List XS} (h : evE F σ none a = some (.bool false)) : exX F wf σ (.ite a b []) = some (.next σ) := (s_ite_f h).trans exS_nil
end Mine

namespace Mine
open PySem PySem.W PySem.Calls PyProof.Rows PySem.SeqAt

noncomputable def LS (s : List Int) (a2 a3 a4 a5 a6 a7 a8 a9 a10 a11 a12 a13 a14 a15 a16 a17 a18 a19 a20 a21 a22 a23 a24 a25 : Slot) : List Slot := [.val (.lst (s.map .int)), .val dRows, a2, a3, a4, a5, a6, a7, a8, a9, a10, a11, a12, a13, a14, a15, a16, a17, a18, a19, a20, a21, a22, a23, a24, a25]
noncomputable def CA : List XS := [ .assign 4 (.call 11 [.var 0, .var 3]), .assign 5 (.call 13 [.item (.item (.var 1) (.bin .mod (.bin .add (.bin .add (.var 4) (.bin .mul (.int 2) (.var 3))) (.int 2)) (.int 9))) (.int 1), .bin .fdiv (.var 4) (.int 9)]), .assign 2 (.bin .add (.var 2) (.call 14 [.var 5, .call 11 [.var 0, .bin .add (.int 4) (.var 3)], .var 3]))]

section
variable {s : List Int}
theorem octs_app {l m : List Int} {a b : Nat} (x : octsOk l a) (y : octsOk m b) : octsOk (l ++ m) (a + b) :=
  ⟨fun z hz => (List.mem_append.mp hz).elim (x.1 z) (y.1 z), by rw [List.length_append]; have := x.2; have := y.2; omega⟩

theorem loopA (hs : s.length ≤ 63) (ks : List Nat) : ∀ (o : List Int) (n : Nat) (a3 a4 a5 : Slot), (∀ k ∈ ks, k < 4) → octsOk o n → n + 5 * ks.length ≤ 100 →
    ∃ o' b3 b4 b5, forL (turn (Fn 5000 21) 5000 (.one 3) CA) (ks.map fun i : Nat => .int ((0 : Int) + (i : Int) * 1)) (LS s (.val (.lst (o.map .int))) a3 a4 a5 .no .no .no .no .no .no .no .no .no .no .no .no .no .no .no .no .no .no .no .no) = some (.next (LS s (.val (.lst (o'.map .int))) b3 b4 b5 .no .no .no .no .no .no .no .no .no .no .no .no .no .no .no .no .no .no .no .no)) ∧ octsOk o' (n + 5 * ks.length) := by
  induction ks with
  | nil => intro o n a3 a4 a5 _ ho _; exact ⟨o, a3, a4, a5, rfl, ho⟩
  | cons k ks ih =>
    intro o n a3 a4 a5 hk ho hn
    have k4 := hk k List.mem_cons_self
    rw [List.length_cons] at hn
    have ek : (0 : Int) + (k : Int) * 1 = (k : Int) := by omega
    have e4 : (4 : Int) + (k : Int) = ((4 + k : Nat) : Int) := by omega
    have hs1 : setT (.one 3) (.int (k : Int)) (LS s (.val (.lst (o.map .int))) a3 a4 a5 .no .no .no .no .no .no .no .no .no .no .no .no .no .no .no .no .no .no .no .no) = some (LS s (.val (.lst (o.map .int))) (.val (.int k)) a4 a5 .no .no .no .no .no .no .no .no .no .no .no .no .no .no .no .no .no .no .no .no) := rfl
    have s1 : exX (Fn 5000 21) 5000 (LS s (.val (.lst (o.map .int))) (.val (.int k)) a4 a5 .no .no .no .no .no .no .no .no .no .no .no .no .no .no .no .no .no .no .no .no) (.assign 4 (.call 11 [.var 0, .var 3])) = some (.next (LS s (.val (.lst (o.map .int))) (.val (.int k)) (.val (.int (dig s k))) a5 .no .no .no .no .no .no .no .no .no .no .no .no .no .no .no .no .no .no .no .no)) :=
      s_assign (e_call (e_args (e_var rfl) (e_args (e_var rfl) e_args0)) (F_dig (by omega) hs (by omega)))
    generalize dig s k = num at *
    have m0 := Int.emod_nonneg (num + 2 * k + 2) (show (9 : Int) ≠ 0 by omega)
    have m1 := Int.emod_lt_of_pos (num + 2 * k + 2) (show (0 : Int) < 9 by omega)
    have hlt : ((num + 2 * k + 2) % 9).toNat < rows9.length := by show _ < 9; omega
    have hx : rows9[((num + 2 * k + 2) % 9).toNat]? = some rows9[((num + 2 * k + 2) % 9).toNat] := List.getElem?_eq_getElem hlt
    have hmem := List.getElem_mem hlt
    generalize rows9[((num + 2 * k + 2) % 9).toNat] = row at *
    obtain ⟨q1, q2, q3, q4⟩ := rows9_ok row hmem
    have q5 : 1 ≤ row.2.length := by
      have : ∀ r ∈ rows9, 1 ≤ r.2.length := by decide
      exact this row hmem
    have hl : letsOk row.2 := ⟨q1, q4⟩
    have hrow : evE (Fn 5000 21) (LS s (.val (.lst (o.map .int))) (.val (.int k)) (.val (.int num)) a5 .no .no .no .no .no .no .no .no .no .no .no .no .no .no .no .no .no .no .no .no) none (.item (.item (.var 1) (.bin .mod (.bin .add (.bin .add (.var 4) (.bin .mul (.int 2) (.var 3))) (.int 2)) (.int 9))) (.int 1)) = some (.lst (row.2.map dLet)) := by
      refine e_item (x := dRow row) (e_item (x := dRows) (e_var rfl) (e_mod (e_add (e_add (e_var rfl) (e_mul (e_int 2) (e_var (d := .int (k : Int)) rfl) (by omega))) (e_int 2)) (e_int 9) (by decide)) ?_) (e_int 1) (i_tup (n := 1) rfl (by decide) rfl)
      exact i_lst (n := ((num + 2 * k + 2) % 9).toNat) (by omega) (by unfold big; omega) (by rw [List.getElem?_map, hx]; rfl)
    have s2 : exX (Fn 5000 21) 5000 (LS s (.val (.lst (o.map .int))) (.val (.int k)) (.val (.int num)) a5 .no .no .no .no .no .no .no .no .no .no .no .no .no .no .no .no .no .no .no .no) (.assign 5 (.call 13 [.item (.item (.var 1) (.bin .mod (.bin .add (.bin .add (.var 4) (.bin .mul (.int 2) (.var 3))) (.int 2)) (.int 9))) (.int 1), .bin .fdiv (.var 4) (.int 9)])) = some (.next (LS s (.val (.lst (o.map .int))) (.val (.int k)) (.val (.int num)) (.val (.lst ((formS row.2 (num / 9)).1.map .int))) .no .no .no .no .no .no .no .no .no .no .no .no .no .no .no .no .no .no .no .no)) :=
      s_assign (e_call (e_args hrow (e_args (e_fdiv (e_var rfl) (e_int 9) (by decide)) e_args0)) (F_form (by omega) hl))
    have hfo : octsOk (formS row.2 (num / 9)).1 4 := ⟨formS_range _ _ q1, by rw [formS_len]; exact q4⟩
    have hf1 : 1 ≤ (formS row.2 (num / 9)).1.length := by rw [formS_len]; exact q5
    generalize (formS row.2 (num / 9)).1 = fm at *
    obtain ⟨l, hF, hlo⟩ := F_spoiled (i := 21) (number := dig s (4 + k)) (nth := k) (by omega) hfo hf1
    have hoc := octs_app ho hlo
    have s3 : exX (Fn 5000 21) 5000 (LS s (.val (.lst (o.map .int))) (.val (.int k)) (.val (.int num)) (.val (.lst (fm.map .int))) .no .no .no .no .no .no .no .no .no .no .no .no .no .no .no .no .no .no .no .no) (.assign 2 (.bin .add (.var 2) (.call 14 [.var 5, .call 11 [.var 0, .bin .add (.int 4) (.var 3)], .var 3]))) = some (.next (LS s (.val (.lst ((o ++ l).map .int))) (.val (.int k)) (.val (.int num)) (.val (.lst (fm.map .int))) .no .no .no .no .no .no .no .no .no .no .no .no .no .no .no .no .no .no .no .no)) := by
      refine s_assign (e_catL (l := o) (m := l) (e_var rfl) (e_call (e_args (e_var rfl) (e_args (e_call (e_args (e_var rfl) (e_args (e_add (e_int 4) (e_var (d := .int (k : Int)) rfl)) e_args0)) (d := .int (dig s (4 + k))) ?_) (e_args (e_var rfl) e_args0))) hF) ?_)
      · rw [e4]; exact F_dig (by omega) hs (by omega)
      · have := ho.2; have := hlo.2; unfold big; omega
    obtain ⟨o', b3, b4, b5, e, r⟩ := ih (o ++ l) (n + 5) (.val (.int k)) (.val (.int num)) (.val (.lst (fm.map .int))) (fun x hx => hk x (List.mem_cons_of_mem _ hx)) hoc (by omega)
    refine ⟨o', b3, b4, b5, ?_, by rw [List.length_cons]; rw [show n + 5 * (ks.length + 1) = n + 5 + 5 * ks.length by omega]; exact r⟩
    rw [List.map_cons, ek]
    exact (fl_next ((turn_eq hs1).trans (exS_cons s1 (exS_cons s2 (exS_one.trans s3))))).trans e

noncomputable def pre8 (n : Int) : List Int := if n % 4 = 0 then [] else if n % 4 = 1 then [239, 187, 191] else if n % 4 = 2 then [239, 187, 191, 239, 187, 191] else [239, 187]
theorem phaseA (hs : s.length ≤ 63) : ∃ o b3 b4 b5, (∀ r out, exS (Fn 5000 21) 5000 (LS s (.val (.lst (o.map .int))) b3 b4 b5 .no .no .no .no .no .no .no .no .no .no .no .no .no .no .no .no .no .no .no .no) r = out → exS (Fn 5000 21) 5000 (start names_law.length 1 [.lst (s.map .int)]) ((.assign 1 (.call 12 [])) :: (.assign 2 (.item (.lst [.lst [], .lst [.int 239, .int 187, .int 191], .lst [.int 239, .int 187, .int 191, .int 239, .int 187, .int 191], .lst [.int 239, .int 187]]) (.bin .mod (.call 11 [.var 0, .int 8]) (.int 4)))) :: (.for_ (.one 3) (.prim .range [.int 4]) [ .assign 4 (.call 11 [.var 0, .var 3]), .assign 5 (.call 13 [.item (.item (.var 1) (.bin .mod (.bin .add (.bin .add (.var 4) (.bin .mul (.int 2) (.var 3))) (.int 2)) (.int 9))) (.int 1), .bin .fdiv (.var 4) (.int 9)]), .assign 2 (.bin .add (.var 2) (.call 14 [.var 5, .call 11 [.var 0, .bin .add (.int 4) (.var 3)], .var 3]))]) :: (.ite (.cmp (.call 6 [.prim .bytes [.var 2], .str [85, 84, 70, 45, 56]]) [.ne] [.call 15 [.var 1, .var 2]]) [ .ret (.bool false)] [ ]) :: r) = out) ∧ octsOk o 26 := by
  have h1 : exX (Fn 5000 21) 5000 (start names_law.length 1 [.lst (s.map .int)]) (.assign 1 (.call 12 [])) = some (.next (LS s .no .no .no .no .no .no .no .no .no .no .no .no .no .no .no .no .no .no .no .no .no .no .no .no)) := s_assign (e_call e_args0 (F_rows (by omega)))
  have m0 := Int.emod_nonneg (dig s 8) (show (4 : Int) ≠ 0 by omega)
  have m1 := Int.emod_lt_of_pos (dig s 8) (show (0 : Int) < 4 by omega)
  have h2 : ∃ o, exX (Fn 5000 21) 5000 (LS s .no .no .no .no .no .no .no .no .no .no .no .no .no .no .no .no .no .no .no .no .no .no .no .no) (.assign 2 (.item (.lst [.lst [], .lst [.int 239, .int 187, .int 191], .lst [.int 239, .int 187, .int 191, .int 239, .int 187, .int 191], .lst [.int 239, .int 187]]) (.bin .mod (.call 11 [.var 0, .int 8]) (.int 4)))) = some (.next (LS s (.val (.lst (o.map .int))) .no .no .no .no .no .no .no .no .no .no .no .no .no .no .no .no .no .no .no .no .no .no .no)) ∧ octsOk o 6 := by
    refine ⟨pre8 (dig s 8), s_assign (e_item (k := dig s 8 % 4) rfl (e_mod (e_call (e_args (e_var rfl) (e_args (e_int 8) e_args0)) (F_dig (k := 8) (by omega) hs (by omega))) (e_int 4) (by decide)) (i_lst (n := (dig s 8 % 4).toNat) (by omega) (by unfold big; omega) ?_)), ?_⟩
    · unfold pre8
      rcases (by omega : dig s 8 % 4 = 0 ∨ dig s 8 % 4 = 1 ∨ dig s 8 % 4 = 2 ∨ dig s 8 % 4 = 3) with q | q | q | q <;> rw [q] <;> rfl
    · unfold pre8
      split
      · exact ⟨by decide, by decide⟩
      · split
        · exact ⟨by decide, by decide⟩
        · split <;> exact ⟨by decide, by decide⟩
  obtain ⟨o0, h2, ho0⟩ := h2
  have hr := rangeOk_small (a := 0) (b := 4) (c := 1) (by omega) (by omega) (.inl rfl)
  have hn : rangeNum 0 4 1 = 4 := by decide
  obtain ⟨o, b3, b4, b5, e, ho⟩ := loopA hs (List.range 4) o0 6 .no .no .no (fun k hk => List.mem_range.mp hk) ho0 (by simp)
  have h3 : exX (Fn 5000 21) 5000 (LS s (.val (.lst (o0.map .int))) .no .no .no .no .no .no .no .no .no .no .no .no .no .no .no .no .no .no .no .no .no .no .no) (.for_ (.one 3) (.prim .range [.int 4]) [ .assign 4 (.call 11 [.var 0, .var 3]), .assign 5 (.call 13 [.item (.item (.var 1) (.bin .mod (.bin .add (.bin .add (.var 4) (.bin .mul (.int 2) (.var 3))) (.int 2)) (.int 9))) (.int 1), .bin .fdiv (.var 4) (.int 9)]), .assign 2 (.bin .add (.var 2) (.call 14 [.var 5, .call 11 [.var 0, .bin .add (.int 4) (.var 3)], .var 3]))]) = some (.next (LS s (.val (.lst (o.map .int))) b3 b4 b5 .no .no .no .no .no .no .no .no .no .no .no .no .no .no .no .no .no .no .no .no)) := s_forT (d := .range 0 4 1) (e_prim (e_args (e_int 4) e_args0) rfl) (show itemsFor (.one 3) _ = _ from items_range hr hn) e
  have ho' : octsOk o 26 := by simpa using ho
  have hb : evE (Fn 5000 21) (LS s (.val (.lst (o.map .int))) b3 b4 b5 .no .no .no .no .no .no .no .no .no .no .no .no .no .no .no .no .no .no .no .no) none (.prim .bytes [.var 2]) = some (.bytes o) := e_prim (e_args (e_var rfl) e_args0) (p_bytes ho' (by omega))
  have ol := ho'.2
  have h4 : exX (Fn 5000 21) 5000 (LS s (.val (.lst (o.map .int))) b3 b4 b5 .no .no .no .no .no .no .no .no .no .no .no .no .no .no .no .no .no .no .no .no) (.ite (.cmp (.call 6 [.prim .bytes [.var 2], .str [85, 84, 70, 45, 56]]) [.ne] [.call 15 [.var 1, .var 2]]) [ .ret (.bool false)] [ ]) = some (.next (LS s (.val (.lst (o.map .int))) b3 b4 b5 .no .no .no .no .no .no .no .no .no .no .no .no .no .no .no .no .no .no .no .no)) :=
    s_no (e_neS (e_call (e_args hb (e_args (e_str _) e_args0)) (F_dec8 (by omega) o (fun x hx => (ho'.1 x hx).1) (by omega))) (e_call (e_args (e_var rfl) (e_args (e_var rfl) e_args0)) (F_lawutf8 (by omega) (by omega) o (by omega) (fun x hx => (ho'.1 x hx).1))))
  exact ⟨o, b3, b4, b5, fun r out h => exS_cons h1 (exS_cons h2 (exS_cons h3 (exS_cons h4 h))), ho'⟩
end
end Mine

namespace Mine
open PySem PySem.W PySem.Calls PyProof.Rows PySem.SeqAt

noncomputable def CU : List XS := [ .extend 8 (.lst [.bin .fdiv (.var 10) (.int 256), .bin .mod (.var 10) (.int 256)]), .extend 9 (.lst [.bin .mod (.var 10) (.int 256), .bin .fdiv (.var 10) (.int 256)])]

section
variable {s o : List Int} {b3 b4 b5 : Slot}
theorem loopC {odd : List Int} (vs us : List Int) : ∀ (x y : List Int) (z : Slot), unitsOk vs → x.length + 2 * vs.length ≤ 100 → y.length + 2 * vs.length ≤ 100 →
    ∃ z', forL (turn (Fn 5000 21) 5000 (.one 10) CU) (vs.map .int) (LS s (.val (.lst (o.map .int))) b3 b4 b5 (.val (.lst (us.map .int))) (.val (.lst (odd.map .int))) (.own (x.map .int)) (.own (y.map .int)) z .no .no .no .no .no .no .no .no .no .no .no .no .no .no .no) = some (.next (LS s (.val (.lst (o.map .int))) b3 b4 b5 (.val (.lst (us.map .int))) (.val (.lst (odd.map .int))) (.own ((x ++ vs.flatMap (oct16 true)).map .int)) (.own ((y ++ vs.flatMap (oct16 false)).map .int)) z' .no .no .no .no .no .no .no .no .no .no .no .no .no .no .no)) := by
  induction vs with
  | nil => intro x y z _ _ _; exact ⟨z, by simp [forL]⟩
  | cons u vs ih =>
    intro x y z hu hx hy
    rw [List.length_cons] at hx hy
    obtain ⟨z', e⟩ := ih (x ++ oct16 true u) (y ++ oct16 false u) (.val (.int u)) (fun w hw => hu w (List.mem_cons_of_mem _ hw)) (by simp [oct16]; omega) (by simp [oct16]; omega)
    refine ⟨z', ?_⟩
    have hs1 : setT (.one 10) (.int u) (LS s (.val (.lst (o.map .int))) b3 b4 b5 (.val (.lst (us.map .int))) (.val (.lst (odd.map .int))) (.own (x.map .int)) (.own (y.map .int)) z .no .no .no .no .no .no .no .no .no .no .no .no .no .no .no) = some (LS s (.val (.lst (o.map .int))) b3 b4 b5 (.val (.lst (us.map .int))) (.val (.lst (odd.map .int))) (.own (x.map .int)) (.own (y.map .int)) (.val (.int u)) .no .no .no .no .no .no .no .no .no .no .no .no .no .no .no) := rfl
    have d : ∀ {σ : List Slot}, evE (Fn 5000 21) σ none (.var 10) = some (.int u) → evE (Fn 5000 21) σ none (.bin .fdiv (.var 10) (.int 256)) = some (.int (u / 256)) := fun h => e_fdiv h (e_int 256) (by decide)
    have m : ∀ {σ : List Slot}, evE (Fn 5000 21) σ none (.var 10) = some (.int u) → evE (Fn 5000 21) σ none (.bin .mod (.var 10) (.int 256)) = some (.int (u % 256)) := fun h => e_mod h (e_int 256) (by decide)
    have s1 : exX (Fn 5000 21) 5000 (LS s (.val (.lst (o.map .int))) b3 b4 b5 (.val (.lst (us.map .int))) (.val (.lst (odd.map .int))) (.own (x.map .int)) (.own (y.map .int)) (.val (.int u)) .no .no .no .no .no .no .no .no .no .no .no .no .no .no .no) (.extend 8 (.lst [.bin .fdiv (.var 10) (.int 256), .bin .mod (.var 10) (.int 256)])) = some (.next (LS s (.val (.lst (o.map .int))) b3 b4 b5 (.val (.lst (us.map .int))) (.val (.lst (odd.map .int))) (.own ((x ++ oct16 true u).map .int)) (.own (y.map .int)) (.val (.int u)) .no .no .no .no .no .no .no .no .no .no .no .no .no .no .no)) := by
      refine s_extend (l := (oct16 true u).map .int) (e_lst (e_args (d (e_var rfl)) (e_args (m (e_var rfl)) e_args0))) ?_
      simp only [evAppend, LS, List.getElem?_cons_succ, List.getElem?_cons_zero]
      rw [if_pos (by rw [List.length_map, List.length_map]; simp only [oct16, if_true, List.length_cons, List.length_nil]; unfold big; omega)]
      simp only [List.map_append]
      rfl
    have s2 : exX (Fn 5000 21) 5000 (LS s (.val (.lst (o.map .int))) b3 b4 b5 (.val (.lst (us.map .int))) (.val (.lst (odd.map .int))) (.own ((x ++ oct16 true u).map .int)) (.own (y.map .int)) (.val (.int u)) .no .no .no .no .no .no .no .no .no .no .no .no .no .no .no) (.extend 9 (.lst [.bin .mod (.var 10) (.int 256), .bin .fdiv (.var 10) (.int 256)])) = some (.next (LS s (.val (.lst (o.map .int))) b3 b4 b5 (.val (.lst (us.map .int))) (.val (.lst (odd.map .int))) (.own ((x ++ oct16 true u).map .int)) (.own ((y ++ oct16 false u).map .int)) (.val (.int u)) .no .no .no .no .no .no .no .no .no .no .no .no .no .no .no)) := by
      refine s_extend (l := (oct16 false u).map .int) (e_lst (e_args (m (e_var rfl)) (e_args (d (e_var rfl)) e_args0))) ?_
      simp only [evAppend, LS, List.getElem?_cons_succ, List.getElem?_cons_zero]
      rw [if_pos (by rw [List.length_map, List.length_map]; simp only [oct16, Bool.false_eq_true, if_false, List.length_cons, List.length_nil]; unfold big; omega)]
      simp only [List.map_append]
      rfl
    rw [List.map_cons]
    refine (fl_next ((turn_eq hs1).trans (exS_cons s1 (exS_one.trans s2)))).trans (e.trans ?_)
    rw [List.flatMap_cons, List.flatMap_cons, List.append_assoc, List.append_assoc]

theorem flat16_ok {us : List Int} (be : Bool) (hu : unitsOk us) (hl : us.length ≤ 6) : octsOk (us.flatMap (oct16 be)) 12 := by
  refine ⟨fun x hx => ?_, by rw [oct16_len]; omega⟩
  obtain ⟨u, hm, hx⟩ := List.mem_flatMap.mp hx
  have := hu u hm
  cases be <;> simp [oct16] at hx <;> omega
theorem phaseC (hs : s.length ≤ 63) : ∃ (us odd : List Int) (z10 : Slot), (∀ r out, exS (Fn 5000 21) 5000 (LS s (.val (.lst (o.map .int))) b3 b4 b5 (.val (.lst (us.map .int))) (.val (.lst (odd.map .int))) (.val (.lst ((us.flatMap (oct16 true)).map .int))) (.val (.lst ((us.flatMap (oct16 false)).map .int))) z10 (.val (.str (fw (odd.length == 1) 0 (bom16 us)))) .no .no .no .no .no .no .no .no .no .no .no .no .no .no) r = out → exS (Fn 5000 21) 5000 (LS s (.val (.lst (o.map .int))) b3 b4 b5 .no .no .no .no .no .no .no .no .no .no .no .no .no .no .no .no .no .no .no .no) ((.assign 6 (.call 16 [.var 0])) :: (.assign 7 (.ife (.cmp (.bin .mod (.call 11 [.var 0, .int 15]) (.int 2)) [.eq] [.int 1]) (.lst [.bin .mod (.bin .fdiv (.call 11 [.var 0, .int 15]) (.int 2)) (.int 256)]) (.lst []))) :: (.newl 8) :: (.newl 9) :: (.for_ (.one 10) (.var 6) [ .extend 8 (.lst [.bin .fdiv (.var 10) (.int 256), .bin .mod (.var 10) (.int 256)]), .extend 9 (.lst [.bin .mod (.var 10) (.int 256), .bin .fdiv (.var 10) (.int 256)])]) :: (.assign 11 (.call 17 [.var 6, .cmp (.prim .len [.var 7]) [.eq] [.int 1]])) :: (.freeze 8) :: (.freeze 9) :: (.ite (.lor [.cmp (.call 6 [.prim .bytes [.bin .add (.var 8) (.var 7)], .str [85, 84, 70, 45, 49, 54, 66, 69]]) [.ne] [.var 11], .cmp (.call 6 [.prim .bytes [.bin .add (.var 9) (.var 7)], .str [85, 84, 70, 45, 49, 54, 76, 69]]) [.ne] [.var 11]]) [ .ret (.bool false)] [ ]) :: r) = out) ∧ unitsOk us ∧ us.length ≤ 6 := by
  obtain ⟨us, hU, hu, hul⟩ := F_units (s := s) (i := 21) (by omega) hs
  have h4 : exX (Fn 5000 21) 5000 (LS s (.val (.lst (o.map .int))) b3 b4 b5 .no .no .no .no .no .no .no .no .no .no .no .no .no .no .no .no .no .no .no .no) (.assign 6 (.call 16 [.var 0])) = some (.next (LS s (.val (.lst (o.map .int))) b3 b4 b5 (.val (.lst (us.map .int))) .no .no .no .no .no .no .no .no .no .no .no .no .no .no .no .no .no .no .no)) := s_assign (e_call (e_args (e_var rfl) e_args0) hU)
  have h5 : ∃ odd : List Int, exX (Fn 5000 21) 5000 (LS s (.val (.lst (o.map .int))) b3 b4 b5 (.val (.lst (us.map .int))) .no .no .no .no .no .no .no .no .no .no .no .no .no .no .no .no .no .no .no) (.assign 7 (.ife (.cmp (.bin .mod (.call 11 [.var 0, .int 15]) (.int 2)) [.eq] [.int 1]) (.lst [.bin .mod (.bin .fdiv (.call 11 [.var 0, .int 15]) (.int 2)) (.int 256)]) (.lst []))) = some (.next (LS s (.val (.lst (o.map .int))) b3 b4 b5 (.val (.lst (us.map .int))) (.val (.lst (odd.map .int))) .no .no .no .no .no .no .no .no .no .no .no .no .no .no .no .no .no .no)) ∧ octsOk odd 1 := by
    have hd : evE (Fn 5000 21) (LS s (.val (.lst (o.map .int))) b3 b4 b5 (.val (.lst (us.map .int))) .no .no .no .no .no .no .no .no .no .no .no .no .no .no .no .no .no .no .no) none (.call 11 [.var 0, .int 15]) = some (.int (dig s 15)) := e_call (e_args (e_var rfl) (e_args (e_int 15) e_args0)) (F_dig (k := 15) (by omega) hs (by omega))
    have ht := e_eqi (e_mod hd (e_int 2) (by decide)) (e_int 1)
    by_cases q : dig s 15 % 2 = 1
    · rw [decide_eq_true q] at ht
      refine ⟨[dig s 15 / 2 % 256], s_assign (e_ife_t ht (e_lst (e_args (e_mod (e_fdiv hd (e_int 2) (by decide)) (e_int 256) (by decide)) e_args0))), fun x hx => ?_, by simp⟩
      rw [List.mem_singleton] at hx; subst hx; exact mod256 _
    · rw [decide_eq_false q] at ht
      exact ⟨[], s_assign (e_ife_f ht (e_lst e_args0)), by simp, by simp⟩
  obtain ⟨odd, h5, ho⟩ := h5
  have h6 : exX (Fn 5000 21) 5000 (LS s (.val (.lst (o.map .int))) b3 b4 b5 (.val (.lst (us.map .int))) (.val (.lst (odd.map .int))) .no .no .no .no .no .no .no .no .no .no .no .no .no .no .no .no .no .no) (.newl 8) = some (.next (LS s (.val (.lst (o.map .int))) b3 b4 b5 (.val (.lst (us.map .int))) (.val (.lst (odd.map .int))) (.own []) .no .no .no .no .no .no .no .no .no .no .no .no .no .no .no .no .no)) := rfl
  have h7 : exX (Fn 5000 21) 5000 (LS s (.val (.lst (o.map .int))) b3 b4 b5 (.val (.lst (us.map .int))) (.val (.lst (odd.map .int))) (.own []) .no .no .no .no .no .no .no .no .no .no .no .no .no .no .no .no .no) (.newl 9) = some (.next (LS s (.val (.lst (o.map .int))) b3 b4 b5 (.val (.lst (us.map .int))) (.val (.lst (odd.map .int))) (.own []) (.own []) .no .no .no .no .no .no .no .no .no .no .no .no .no .no .no .no)) := rfl
  obtain ⟨z10, e8⟩ := loopC (s := s) (o := o) (b3 := b3) (b4 := b4) (b5 := b5) (odd := odd) us us [] [] .no hu (by simp; omega) (by simp; omega)
  rw [List.nil_append, List.nil_append] at e8
  have hit : itemsFor (.one 10) (.lst (us.map D.int)) = some (us.map D.int) := by
    simp only [itemsFor, itemsOf]
    rw [if_pos (by rw [List.length_map]; unfold big; omega)]
  have h8 : exX (Fn 5000 21) 5000 (LS s (.val (.lst (o.map .int))) b3 b4 b5 (.val (.lst (us.map .int))) (.val (.lst (odd.map .int))) (.own []) (.own []) .no .no .no .no .no .no .no .no .no .no .no .no .no .no .no .no) (.for_ (.one 10) (.var 6) [ .extend 8 (.lst [.bin .fdiv (.var 10) (.int 256), .bin .mod (.var 10) (.int 256)]), .extend 9 (.lst [.bin .mod (.var 10) (.int 256), .bin .fdiv (.var 10) (.int 256)])]) = some (.next (LS s (.val (.lst (o.map .int))) b3 b4 b5 (.val (.lst (us.map .int))) (.val (.lst (odd.map .int))) (.own ((us.flatMap (oct16 true)).map .int)) (.own ((us.flatMap (oct16 false)).map .int)) z10 .no .no .no .no .no .no .no .no .no .no .no .no .no .no .no)) := s_forT (d := .lst (us.map .int)) (e_var rfl) hit e8
  have hol := ho.2
  have h9 : exX (Fn 5000 21) 5000 (LS s (.val (.lst (o.map .int))) b3 b4 b5 (.val (.lst (us.map .int))) (.val (.lst (odd.map .int))) (.own ((us.flatMap (oct16 true)).map .int)) (.own ((us.flatMap (oct16 false)).map .int)) z10 .no .no .no .no .no .no .no .no .no .no .no .no .no .no .no) (.assign 11 (.call 17 [.var 6, .cmp (.prim .len [.var 7]) [.eq] [.int 1]])) = some (.next (LS s (.val (.lst (o.map .int))) b3 b4 b5 (.val (.lst (us.map .int))) (.val (.lst (odd.map .int))) (.own ((us.flatMap (oct16 true)).map .int)) (.own ((us.flatMap (oct16 false)).map .int)) z10 (.val (.str (fw (odd.length == 1) 0 (bom16 us)))) .no .no .no .no .no .no .no .no .no .no .no .no .no .no)) := by
    have hlen := e_eqi (F := Fn 5000 21) (cv := none) (e_lenL (F := Fn 5000 21) (σ := (LS s (.val (.lst (o.map .int))) b3 b4 b5 (.val (.lst (us.map .int))) (.val (.lst (odd.map .int))) (.own ((us.flatMap (oct16 true)).map .int)) (.own ((us.flatMap (oct16 false)).map .int)) z10 .no .no .no .no .no .no .no .no .no .no .no .no .no .no .no)) (cv := none) (a := .var 7) (l := odd) (e_var rfl) (by unfold big; omega)) (e_int 1)
    have hdec : decide ((odd.length : Int) = 1) = (odd.length == 1) := by
      rw [Bool.eq_iff_iff]; simp only [decide_eq_true_eq, beq_iff_eq]; omega
    rw [hdec] at hlen
    exact s_assign (e_call (e_args (e_var rfl) (e_args hlen e_args0)) (F_law16 (by omega) hu (by omega)))
  have h10 : exX (Fn 5000 21) 5000 (LS s (.val (.lst (o.map .int))) b3 b4 b5 (.val (.lst (us.map .int))) (.val (.lst (odd.map .int))) (.own ((us.flatMap (oct16 true)).map .int)) (.own ((us.flatMap (oct16 false)).map .int)) z10 (.val (.str (fw (odd.length == 1) 0 (bom16 us)))) .no .no .no .no .no .no .no .no .no .no .no .no .no .no) (.freeze 8) = some (.next (LS s (.val (.lst (o.map .int))) b3 b4 b5 (.val (.lst (us.map .int))) (.val (.lst (odd.map .int))) (.val (.lst ((us.flatMap (oct16 true)).map .int))) (.own ((us.flatMap (oct16 false)).map .int)) z10 (.val (.str (fw (odd.length == 1) 0 (bom16 us)))) .no .no .no .no .no .no .no .no .no .no .no .no .no .no)) := rfl
  have h11 : exX (Fn 5000 21) 5000 (LS s (.val (.lst (o.map .int))) b3 b4 b5 (.val (.lst (us.map .int))) (.val (.lst (odd.map .int))) (.val (.lst ((us.flatMap (oct16 true)).map .int))) (.own ((us.flatMap (oct16 false)).map .int)) z10 (.val (.str (fw (odd.length == 1) 0 (bom16 us)))) .no .no .no .no .no .no .no .no .no .no .no .no .no .no) (.freeze 9) = some (.next (LS s (.val (.lst (o.map .int))) b3 b4 b5 (.val (.lst (us.map .int))) (.val (.lst (odd.map .int))) (.val (.lst ((us.flatMap (oct16 true)).map .int))) (.val (.lst ((us.flatMap (oct16 false)).map .int))) z10 (.val (.str (fw (odd.length == 1) 0 (bom16 us)))) .no .no .no .no .no .no .no .no .no .no .no .no .no .no)) := rfl
  have h12 : exX (Fn 5000 21) 5000 (LS s (.val (.lst (o.map .int))) b3 b4 b5 (.val (.lst (us.map .int))) (.val (.lst (odd.map .int))) (.val (.lst ((us.flatMap (oct16 true)).map .int))) (.val (.lst ((us.flatMap (oct16 false)).map .int))) z10 (.val (.str (fw (odd.length == 1) 0 (bom16 us)))) .no .no .no .no .no .no .no .no .no .no .no .no .no .no) (.ite (.lor [.cmp (.call 6 [.prim .bytes [.bin .add (.var 8) (.var 7)], .str [85, 84, 70, 45, 49, 54, 66, 69]]) [.ne] [.var 11], .cmp (.call 6 [.prim .bytes [.bin .add (.var 9) (.var 7)], .str [85, 84, 70, 45, 49, 54, 76, 69]]) [.ne] [.var 11]]) [ .ret (.bool false)] [ ]) = some (.next (LS s (.val (.lst (o.map .int))) b3 b4 b5 (.val (.lst (us.map .int))) (.val (.lst (odd.map .int))) (.val (.lst ((us.flatMap (oct16 true)).map .int))) (.val (.lst ((us.flatMap (oct16 false)).map .int))) z10 (.val (.str (fw (odd.length == 1) 0 (bom16 us)))) .no .no .no .no .no .no .no .no .no .no .no .no .no .no)) := by
    have one : ∀ (be : Bool) (j : Nat) (hj : (LS s (.val (.lst (o.map .int))) b3 b4 b5 (.val (.lst (us.map .int))) (.val (.lst (odd.map .int))) (.val (.lst ((us.flatMap (oct16 true)).map .int))) (.val (.lst ((us.flatMap (oct16 false)).map .int))) z10 (.val (.str (fw (odd.length == 1) 0 (bom16 us)))) .no .no .no .no .no .no .no .no .no .no .no .no .no .no)[j]? = some (.val (.lst ((us.flatMap (oct16 be)).map .int)))), evE (Fn 5000 21) (LS s (.val (.lst (o.map .int))) b3 b4 b5 (.val (.lst (us.map .int))) (.val (.lst (odd.map .int))) (.val (.lst ((us.flatMap (oct16 true)).map .int))) (.val (.lst ((us.flatMap (oct16 false)).map .int))) z10 (.val (.str (fw (odd.length == 1) 0 (bom16 us)))) .no .no .no .no .no .no .no .no .no .no .no .no .no .no) none (.cmp (.call 6 [.prim .bytes [.bin .add (.var j) (.var 7)], .str (name16 be)]) [.ne] [.var 11]) = some (.bool false) := fun be j hj => by
      have hcat := e_catL (F := Fn 5000 21) (σ := (LS s (.val (.lst (o.map .int))) b3 b4 b5 (.val (.lst (us.map .int))) (.val (.lst (odd.map .int))) (.val (.lst ((us.flatMap (oct16 true)).map .int))) (.val (.lst ((us.flatMap (oct16 false)).map .int))) z10 (.val (.str (fw (odd.length == 1) 0 (bom16 us)))) .no .no .no .no .no .no .no .no .no .no .no .no .no .no)) (a := .var j) (b := .var 7) (l := us.flatMap (oct16 be)) (m := odd) (e_var hj) (e_var rfl) (by rw [oct16_len]; unfold big; omega)
      exact e_neS (e_call (e_args (e_prim (e_args hcat e_args0) (p_bytes (octs_app (flat16_ok be hu hul) ho) (by omega))) (e_args (e_str _) e_args0)) (F_dec16 (by omega) hu (by omega) hol)) (e_var rfl)
    have hor := e_or2 (F := Fn 5000 21) (one true 8 rfl) fun _ => one false 9 rfl
    exact s_no hor
  exact ⟨us, odd, z10, fun r out h => exS_cons h4 (exS_cons h5 (exS_cons h6 (exS_cons h7 (exS_cons h8 (exS_cons h9 (exS_cons h10 (exS_cons h11 (exS_cons h12 h)))))))), hu, hul⟩
end
end Mine

namespace Mine
open PySem PySem.W PySem.Calls PyProof.Rows PySem.SeqAt

noncomputable def CD : List XS := [ .unpack [16, 17] (.item (.filt (.var 1) (.cmp (.item (.cvar) (.int 0)) [.le] [.var 15])) (.int (-1))), .extend 14 (.call 13 [.var 17, .bin .sub (.var 15) (.var 16)])]

section
variable {s : List Int} {b2 b3 b4 b5 b6 b7 b8 b9 b10 b11 : Slot}
theorem loopD {tx : Slot} {pts : List Int} (cs : List Int) : ∀ (out : List Int) (z15 z16 z17 : Slot), (∀ c ∈ cs, okC c) → out.length + 4 * cs.length ≤ 200 →
    ∃ y15 y16 y17, forL (turn (Fn 5000 21) 5000 (.one 15) CD) (cs.map .int) (LS s b2 b3 b4 b5 b6 b7 b8 b9 b10 b11 (.val (.lst (pts.map .int))) tx (.own (out.map .int)) z15 z16 z17 .no .no .no .no .no .no .no .no) = some (.next (LS s b2 b3 b4 b5 b6 b7 b8 b9 b10 b11 (.val (.lst (pts.map .int))) tx (.own ((out ++ cs.flatMap u8S).map .int)) y15 y16 y17 .no .no .no .no .no .no .no .no)) := by
  induction cs with
  | nil => intro out z15 z16 z17 _ _; exact ⟨z15, z16, z17, by simp [forL]⟩
  | cons c cs ih =>
    intro out z15 z16 z17 hc hl
    have hk := hc c List.mem_cons_self
    rw [List.length_cons] at hl
    have hlen := u8S_len (c := c)
    obtain ⟨row, hmem, hlast, hle, hnext⟩ := row_of hk.1
    obtain ⟨q1, q2, q3, q4⟩ := rows9_ok row hmem
    obtain ⟨y15, y16, y17, e⟩ := ih (out ++ u8S c) (.val (.int c)) (.val (.int row.1)) (.val (.lst (row.2.map dLet))) (fun w hw => hc w (List.mem_cons_of_mem _ hw)) (by rw [List.length_append]; omega)
    refine ⟨y15, y16, y17, ?_⟩
    have hs1 : setT (.one 15) (.int c) (LS s b2 b3 b4 b5 b6 b7 b8 b9 b10 b11 (.val (.lst (pts.map .int))) tx (.own (out.map .int)) z15 z16 z17 .no .no .no .no .no .no .no .no) = some (LS s b2 b3 b4 b5 b6 b7 b8 b9 b10 b11 (.val (.lst (pts.map .int))) tx (.own (out.map .int)) (.val (.int c)) z16 z17 .no .no .no .no .no .no .no .no) := rfl
    have hbig2 : (2 : Nat) ≤ big := by decide
    have hrows : itemsOf dRows = some (rows9.map dRow) := by
      show itemsOf (.lst (rows9.map dRow)) = _
      simp only [itemsOf]
      rw [if_pos (by decide)]
    have hfl : filtL (fun d => evE (Fn 5000 21) (LS s b2 b3 b4 b5 b6 b7 b8 b9 b10 b11 (.val (.lst (pts.map .int))) tx (.own (out.map .int)) (.val (.int c)) z16 z17 .no .no .no .no .no .no .no .no) (some d) (.cmp (.item (.cvar) (.int 0)) [.le] [.var 15])) (rows9.map dRow) = some ((rows9.filter fun r => decide (r.1 ≤ c)).map dRow) :=
      filtL_rows fun r hr => e_le (e_item (x := dRow r) e_cvar (e_int 0) (i_tup (n := 0) rfl (by decide) rfl)) (e_var rfl)
    have hitem : evE (Fn 5000 21) (LS s b2 b3 b4 b5 b6 b7 b8 b9 b10 b11 (.val (.lst (pts.map .int))) tx (.own (out.map .int)) (.val (.int c)) z16 z17 .no .no .no .no .no .no .no .no) none (.item (.filt (.var 1) (.cmp (.item (.cvar) (.int 0)) [.le] [.var 15])) (.int (-1))) = some (dRow row) := by
      refine e_item (e_filt (x := dRows) (e_var rfl) hrows hfl) (e_int (-1)) (i_last ?_ ?_)
      · rw [List.length_map]
        have h9 := List.length_filter_le (fun r : Int × List (Int × Int) => decide (r.1 ≤ c)) rows9
        have : rows9.length = 9 := rfl
        unfold big; omega
      · rw [List.getLast?_map, hlast]; rfl
    have s1 : exX (Fn 5000 21) 5000 (LS s b2 b3 b4 b5 b6 b7 b8 b9 b10 b11 (.val (.lst (pts.map .int))) tx (.own (out.map .int)) (.val (.int c)) z16 z17 .no .no .no .no .no .no .no .no) (.unpack [16, 17] (.item (.filt (.var 1) (.cmp (.item (.cvar) (.int 0)) [.le] [.var 15])) (.int (-1)))) = some (.next (LS s b2 b3 b4 b5 b6 b7 b8 b9 b10 b11 (.val (.lst (pts.map .int))) tx (.own (out.map .int)) (.val (.int c)) (.val (.int row.1)) (.val (.lst (row.2.map dLet))) .no .no .no .no .no .no .no .no)) := by
      refine s_unpack hitem ?_
      simp only [dRow, setT, List.length_cons, List.length_nil]
      rw [if_pos (by simpa using hbig2)]
      rfl
    have hform := F_form (i := 21) (lets := row.2) (c := c - row.1) (by omega) ⟨q1, q4⟩
    rw [form_u8 row hmem c hle hnext hk.2.1 hk.2.2] at hform
    have s2 : exX (Fn 5000 21) 5000 (LS s b2 b3 b4 b5 b6 b7 b8 b9 b10 b11 (.val (.lst (pts.map .int))) tx (.own (out.map .int)) (.val (.int c)) (.val (.int row.1)) (.val (.lst (row.2.map dLet))) .no .no .no .no .no .no .no .no) (.extend 14 (.call 13 [.var 17, .bin .sub (.var 15) (.var 16)])) = some (.next (LS s b2 b3 b4 b5 b6 b7 b8 b9 b10 b11 (.val (.lst (pts.map .int))) tx (.own ((out ++ u8S c).map .int)) (.val (.int c)) (.val (.int row.1)) (.val (.lst (row.2.map dLet))) .no .no .no .no .no .no .no .no)) := by
      refine s_extend (l := (u8S c).map .int) (e_call (e_args (e_var rfl) (e_args (e_sub (e_var rfl) (e_var rfl)) e_args0)) hform) ?_
      simp only [evAppend, LS, List.getElem?_cons_succ, List.getElem?_cons_zero]
      rw [if_pos (by rw [List.length_map, List.length_map]; unfold big; omega)]
      simp only [List.map_append]
      rfl
    rw [List.map_cons]
    refine (fl_next ((turn_eq hs1).trans (exS_cons s1 (exS_one.trans s2)))).trans (e.trans ?_)
    rw [List.flatMap_cons, List.append_assoc]

theorem rp_ok {p : Int} (h : 0 ≤ p ∧ p ≤ 1114111) : okC (rp p.toNat) := by
  unfold rp okC
  split <;> omega
theorem phaseD (hs : s.length ≤ 63) : ∃ (ps pts : List Int) (y15 y16 y17 y18 y19 : Slot), (∀ r out, exS (Fn 5000 21) 5000 (LS s b2 b3 b4 b5 b6 b7 b8 b9 b10 b11 (.val (.lst (pts.map .int))) (.val (.str (ps.map Int.toNat))) (.val (.lst ((pts.flatMap u8S).map .int))) y15 y16 y17 y18 y19 .no .no .no .no .no .no) r = out → exS (Fn 5000 21) 5000 (LS s b2 b3 b4 b5 b6 b7 b8 b9 b10 b11 .no .no .no .no .no .no .no .no .no .no .no .no .no .no) ((.assignC 12 (.comp (.call 19 [.call 11 [.var 0, .bin .add (.int 16) (.cvar)], .cvar]) (.prim .range [.int 5]))) :: (.assign 13 (.join (.comp (.prim .chr [.cvar]) (.var 12)))) :: (.assignC 12 (.comp (.ife (.cmp (.int 55296) [.le, .le] [.cvar, .int 57343]) (.int 65533) (.cvar)) (.var 12))) :: (.newl 14) :: (.for_ (.one 15) (.var 12) [ .unpack [16, 17] (.item (.filt (.var 1) (.cmp (.item (.cvar) (.int 0)) [.le] [.var 15])) (.int (-1))), .extend 14 (.call 13 [.var 17, .bin .sub (.var 15) (.var 16)])]) :: (.assign 18 (.item (.lst [.str [85, 84, 70, 45, 49, 54, 76, 69], .str [85, 84, 70, 45, 49, 54, 66, 69]]) (.bin .mod (.call 11 [.var 0, .int 21]) (.int 2)))) :: (.freeze 14) :: (.ite (.lor [.cmp (.call 10 [.var 13, .str [85, 84, 70, 45, 56]]) [.ne] [.prim .bytes [.var 14]], .cmp (.call 10 [.var 13, .var 18]) [.ne] [.prim .bytes [.var 14]]]) [ .ret (.bool false)] [ ]) :: (.assign 19 (.ife (.cmp (.item (.var 12) (.int 0)) [.eq] [.int 65279]) (.from_ (.var 12) (.int 1)) (.var 12))) :: (.ite (.cmp (.call 6 [.prim .bytes [.var 14], .str [85, 84, 70, 45, 56]]) [.ne] [.join (.comp (.prim .chr [.cvar]) (.var 19))]) [ .ret (.bool false)] [ ]) :: r) = out) ∧
    (∀ p ∈ ps, 0 ≤ p ∧ p ≤ 1114111) ∧ ps.length = 5 ∧ pts = ps.map (fun p => rp p.toNat) := by
  have hr := rangeOk_small (a := 0) (b := 5) (c := 1) (by omega) (by omega) (.inl rfl)
  have hn : rangeNum 0 5 1 = 5 := by decide
  obtain ⟨ps, hps, hP, hl⟩ := compL_ex (f := fun d => evE (Fn 5000 21) (LS s b2 b3 b4 b5 b6 b7 b8 b9 b10 b11 .no .no .no .no .no .no .no .no .no .no .no .no .no .no) (some d) (.call 19 [.call 11 [.var 0, .bin .add (.int 16) (.cvar)], .cvar])) (P := fun p => 0 ≤ p ∧ p ≤ 1114111) ((List.range 5).map fun i : Nat => .int ((0 : Int) + (i : Int) * 1)) (fun d hd => by
    obtain ⟨k, hk, rfl⟩ := List.mem_map.mp hd
    rw [List.mem_range] at hk
    have ek : (0 : Int) + (k : Int) * 1 = (k : Int) := by omega
    have e16 : (16 : Int) + (k : Int) = ((16 + k : Nat) : Int) := by omega
    rw [ek]
    obtain ⟨p, hp, hp2⟩ := F_point (i := 21) (by omega) (dig s (16 + k)) (k : Int)
    refine ⟨p, e_call (e_args (e_call (e_args (e_var rfl) (e_args (e_add (e_int 16) e_cvar) e_args0)) (d := .int (dig s (16 + k))) ?_) (e_args e_cvar e_args0)) hp, hp2⟩
    rw [e16]; exact F_dig (by omega) hs (by omega))
  have hl5 : ps.length = 5 := by simpa using hl
  have h13 : exX (Fn 5000 21) 5000 (LS s b2 b3 b4 b5 b6 b7 b8 b9 b10 b11 .no .no .no .no .no .no .no .no .no .no .no .no .no .no) (.assignC 12 (.comp (.call 19 [.call 11 [.var 0, .bin .add (.int 16) (.cvar)], .cvar]) (.prim .range [.int 5]))) = some (.next (LS s b2 b3 b4 b5 b6 b7 b8 b9 b10 b11 (.val (.lst (ps.map .int))) .no .no .no .no .no .no .no .no .no .no .no .no .no)) := s_assignC (e_comp (x := .range 0 5 1) (e_prim (e_args (e_int 5) e_args0) rfl) (items_range hr hn) hps)
  have hit : ∀ l : List Int, l.length ≤ 100 → itemsOf (.lst (l.map D.int)) = some (l.map D.int) := fun l h => by
    simp only [itemsOf]
    rw [if_pos (by rw [List.length_map]; unfold big; omega)]
  have chrs : ∀ (σ : List Slot) (l : List Int), (∀ p ∈ l, 0 ≤ p ∧ p ≤ 1114111) → compL (fun d => evE (Fn 5000 21) σ (some d) (.prim .chr [.cvar])) (l.map .int) = some (cps (l.map Int.toNat)) := fun σ l h => by
    rw [compL_ints (g := fun p => .str [p.toNat]) (fun _ => rfl) l fun p hp => e_prim (e_args e_cvar e_args0) (p_chr (h p hp).1 (h p hp).2), strs_of]
  have h14 : exX (Fn 5000 21) 5000 (LS s b2 b3 b4 b5 b6 b7 b8 b9 b10 b11 (.val (.lst (ps.map .int))) .no .no .no .no .no .no .no .no .no .no .no .no .no) (.assign 13 (.join (.comp (.prim .chr [.cvar]) (.var 12)))) = some (.next (LS s b2 b3 b4 b5 b6 b7 b8 b9 b10 b11 (.val (.lst (ps.map .int))) (.val (.str (ps.map Int.toNat))) .no .no .no .no .no .no .no .no .no .no .no .no)) := s_assign (e_join (e_comp (x := .lst (ps.map .int)) (e_var rfl) (hit ps (by omega)) (chrs _ ps hP)) (join_cps _ (by rw [List.length_map]; unfold big; omega)))
  have hrp : compL (fun d => evE (Fn 5000 21) (LS s b2 b3 b4 b5 b6 b7 b8 b9 b10 b11 (.val (.lst (ps.map .int))) (.val (.str (ps.map Int.toNat))) .no .no .no .no .no .no .no .no .no .no .no .no) (some d) (.ife (.cmp (.int 55296) [.le, .le] [.cvar, .int 57343]) (.int 65533) (.cvar))) (ps.map .int) = some ((ps.map fun p => rp p.toNat).map .int) := by
    rw [compL_ints (g := fun p => .int (rp p.toNat)) (fun _ => rfl) ps fun p hp => ?_, List.map_map]
    · rfl
    · have hc := e_lele (F := Fn 5000 21) (σ := (LS s b2 b3 b4 b5 b6 b7 b8 b9 b10 b11 (.val (.lst (ps.map .int))) (.val (.str (ps.map Int.toNat))) .no .no .no .no .no .no .no .no .no .no .no .no)) (cv := some (.int p)) (e_int 55296) e_cvar (e_int 57343)
      have h0 := (hP p hp).1
      unfold rp
      by_cases q : 55296 ≤ p ∧ p ≤ 57343
      · rw [decide_eq_true q] at hc
        rw [if_pos (by omega)]
        exact e_ife_t hc (e_int 65533)
      · rw [decide_eq_false q] at hc
        rw [if_neg (by omega), show ((p.toNat : Nat) : Int) = p by omega]
        exact e_ife_f hc e_cvar
  have hpt : ∀ c ∈ ps.map (fun p => rp p.toNat), okC c := fun c hc => by
    obtain ⟨p, hp, rfl⟩ := List.mem_map.mp hc
    exact rp_ok (hP p hp)
  have hpl : (ps.map (fun p => rp p.toNat)).length = 5 := by rw [List.length_map]; exact hl5
  have htext : (ps.map Int.toNat).map rp = ps.map (fun p => rp p.toNat) := by rw [List.map_map]; rfl
  generalize hpts : ps.map (fun p => rp p.toNat) = pts at *
  have h15 : exX (Fn 5000 21) 5000 (LS s b2 b3 b4 b5 b6 b7 b8 b9 b10 b11 (.val (.lst (ps.map .int))) (.val (.str (ps.map Int.toNat))) .no .no .no .no .no .no .no .no .no .no .no .no) (.assignC 12 (.comp (.ife (.cmp (.int 55296) [.le, .le] [.cvar, .int 57343]) (.int 65533) (.cvar)) (.var 12))) = some (.next (LS s b2 b3 b4 b5 b6 b7 b8 b9 b10 b11 (.val (.lst (pts.map .int))) (.val (.str (ps.map Int.toNat))) .no .no .no .no .no .no .no .no .no .no .no .no)) := s_assignC (e_comp (x := .lst (ps.map .int)) (e_var rfl) (hit ps (by omega)) hrp)
  have h16 : exX (Fn 5000 21) 5000 (LS s b2 b3 b4 b5 b6 b7 b8 b9 b10 b11 (.val (.lst (pts.map .int))) (.val (.str (ps.map Int.toNat))) .no .no .no .no .no .no .no .no .no .no .no .no) (.newl 14) = some (.next (LS s b2 b3 b4 b5 b6 b7 b8 b9 b10 b11 (.val (.lst (pts.map .int))) (.val (.str (ps.map Int.toNat))) (.own []) .no .no .no .no .no .no .no .no .no .no .no)) := rfl
  obtain ⟨y15, y16, y17, e17⟩ := loopD (s := s) (b2 := b2) (b3 := b3) (b4 := b4) (b5 := b5) (b6 := b6) (b7 := b7) (b8 := b8) (b9 := b9) (b10 := b10) (b11 := b11) (tx := (.val (.str (ps.map Int.toNat)))) (pts := pts) pts [] .no .no .no hpt (by simp; omega)
  rw [List.nil_append] at e17
  have h17 : exX (Fn 5000 21) 5000 (LS s b2 b3 b4 b5 b6 b7 b8 b9 b10 b11 (.val (.lst (pts.map .int))) (.val (.str (ps.map Int.toNat))) (.own []) .no .no .no .no .no .no .no .no .no .no .no) (.for_ (.one 15) (.var 12) [ .unpack [16, 17] (.item (.filt (.var 1) (.cmp (.item (.cvar) (.int 0)) [.le] [.var 15])) (.int (-1))), .extend 14 (.call 13 [.var 17, .bin .sub (.var 15) (.var 16)])]) = some (.next (LS s b2 b3 b4 b5 b6 b7 b8 b9 b10 b11 (.val (.lst (pts.map .int))) (.val (.str (ps.map Int.toNat))) (.own ((pts.flatMap u8S).map .int)) y15 y16 y17 .no .no .no .no .no .no .no .no)) := s_forT (d := .lst (pts.map .int)) (e_var rfl) (show itemsFor (.one 15) _ = _ from hit pts (by omega)) e17
  have h18 : ∃ wb : Bool, exX (Fn 5000 21) 5000 (LS s b2 b3 b4 b5 b6 b7 b8 b9 b10 b11 (.val (.lst (pts.map .int))) (.val (.str (ps.map Int.toNat))) (.own ((pts.flatMap u8S).map .int)) y15 y16 y17 .no .no .no .no .no .no .no .no) (.assign 18 (.item (.lst [.str [85, 84, 70, 45, 49, 54, 76, 69], .str [85, 84, 70, 45, 49, 54, 66, 69]]) (.bin .mod (.call 11 [.var 0, .int 21]) (.int 2)))) = some (.next (LS s b2 b3 b4 b5 b6 b7 b8 b9 b10 b11 (.val (.lst (pts.map .int))) (.val (.str (ps.map Int.toNat))) (.own ((pts.flatMap u8S).map .int)) y15 y16 y17 (.val (.str (name16 wb))) .no .no .no .no .no .no .no)) := by
    have hd : evE (Fn 5000 21) (LS s b2 b3 b4 b5 b6 b7 b8 b9 b10 b11 (.val (.lst (pts.map .int))) (.val (.str (ps.map Int.toNat))) (.own ((pts.flatMap u8S).map .int)) y15 y16 y17 .no .no .no .no .no .no .no .no) none (.call 11 [.var 0, .int 21]) = some (.int (dig s 21)) := e_call (e_args (e_var rfl) (e_args (e_int 21) e_args0)) (F_dig (k := 21) (by omega) hs (by omega))
    rcases (by omega : dig s 21 % 2 = 0 ∨ dig s 21 % 2 = 1) with q | q
    · exact ⟨false, s_assign (e_item (k := dig s 21 % 2) rfl (e_mod hd (e_int 2) (by decide)) (i_lst (n := 0) (by omega) (by decide) rfl))⟩
    · exact ⟨true, s_assign (e_item (k := dig s 21 % 2) rfl (e_mod hd (e_int 2) (by decide)) (i_lst (n := 1) (by omega) (by decide) rfl))⟩
  obtain ⟨wb, h18⟩ := h18
  have h19 : exX (Fn 5000 21) 5000 (LS s b2 b3 b4 b5 b6 b7 b8 b9 b10 b11 (.val (.lst (pts.map .int))) (.val (.str (ps.map Int.toNat))) (.own ((pts.flatMap u8S).map .int)) y15 y16 y17 (.val (.str (name16 wb))) .no .no .no .no .no .no .no) (.freeze 14) = some (.next (LS s b2 b3 b4 b5 b6 b7 b8 b9 b10 b11 (.val (.lst (pts.map .int))) (.val (.str (ps.map Int.toNat))) (.val (.lst ((pts.flatMap u8S).map .int))) y15 y16 y17 (.val (.str (name16 wb))) .no .no .no .no .no .no .no)) := rfl
  have hfo : octsOk (pts.flatMap u8S) 20 := by
    refine ⟨fun x hx => ?_, ?_⟩
    · obtain ⟨c, hc, hx⟩ := List.mem_flatMap.mp hx
      exact u8S_range (hpt c hc).1 (hpt c hc).2.1 x hx
    · have := flat_len (g := u8S) (n := 4) pts fun _ _ => u8S_len
      omega
  have hbf : evE (Fn 5000 21) (LS s b2 b3 b4 b5 b6 b7 b8 b9 b10 b11 (.val (.lst (pts.map .int))) (.val (.str (ps.map Int.toNat))) (.val (.lst ((pts.flatMap u8S).map .int))) y15 y16 y17 (.val (.str (name16 wb))) .no .no .no .no .no .no .no) none (.prim .bytes [.var 14]) = some (.bytes (pts.flatMap u8S)) := e_prim (e_args (e_var rfl) e_args0) (p_bytes hfo (by omega))
  have henc : ∀ nm, wideN nm → Fn 5000 21 10 [.str (ps.map Int.toNat), .str nm] = some (.bytes (pts.flatMap u8S)) := fun nm hnm => by
    have := F_encode (i := 21) (nm := nm) (g := u8S) (t := ps.map Int.toNat) (by omega) (by rcases hnm with rfl | rfl | rfl <;> simp [knownL]) (fun c h0 h1 => F_octets_u (by omega) hnm h0 h1) (fun c _ _ => Nat.le_trans u8S_len (by omega)) (fun c h0 h1 => u8S_range h0 h1)
      (fun c hc => by obtain ⟨p, hp, rfl⟩ := List.mem_map.mp hc; have := hP p hp; omega) (by rw [List.length_map]; omega)
    rw [htext] at this
    exact this
  have h20 : exX (Fn 5000 21) 5000 (LS s b2 b3 b4 b5 b6 b7 b8 b9 b10 b11 (.val (.lst (pts.map .int))) (.val (.str (ps.map Int.toNat))) (.val (.lst ((pts.flatMap u8S).map .int))) y15 y16 y17 (.val (.str (name16 wb))) .no .no .no .no .no .no .no) (.ite (.lor [.cmp (.call 10 [.var 13, .str [85, 84, 70, 45, 56]]) [.ne] [.prim .bytes [.var 14]], .cmp (.call 10 [.var 13, .var 18]) [.ne] [.prim .bytes [.var 14]]]) [ .ret (.bool false)] [ ]) = some (.next (LS s b2 b3 b4 b5 b6 b7 b8 b9 b10 b11 (.val (.lst (pts.map .int))) (.val (.str (ps.map Int.toNat))) (.val (.lst ((pts.flatMap u8S).map .int))) y15 y16 y17 (.val (.str (name16 wb))) .no .no .no .no .no .no .no)) := s_no (e_or2 (e_neB (e_call (e_args (e_var rfl) (e_args (e_str _) e_args0)) (henc nameU8 (.inl rfl))) hbf) fun _ => e_neB (e_call (e_args (e_var rfl) (e_args (e_var rfl) e_args0)) (henc (name16 wb) (by cases wb; exact .inr (.inr rfl); exact .inr (.inl rfl)))) hbf)
  obtain ⟨c0, cs, hcs⟩ : ∃ c0 cs, pts = c0 :: cs := by
    cases pts with
    | nil => simp at hpl
    | cons a b => exact ⟨a, b, rfl⟩
  have h21 : exX (Fn 5000 21) 5000 (LS s b2 b3 b4 b5 b6 b7 b8 b9 b10 b11 (.val (.lst (pts.map .int))) (.val (.str (ps.map Int.toNat))) (.val (.lst ((pts.flatMap u8S).map .int))) y15 y16 y17 (.val (.str (name16 wb))) .no .no .no .no .no .no .no) (.assign 19 (.ife (.cmp (.item (.var 12) (.int 0)) [.eq] [.int 65279]) (.from_ (.var 12) (.int 1)) (.var 12))) = some (.next (LS s b2 b3 b4 b5 b6 b7 b8 b9 b10 b11 (.val (.lst (pts.map .int))) (.val (.str (ps.map Int.toNat))) (.val (.lst ((pts.flatMap u8S).map .int))) y15 y16 y17 (.val (.str (name16 wb))) (.val (.lst (((if pts.getD 0 0 = 65279 then pts.drop 1 else pts)).map .int))) .no .no .no .no .no .no)) := by
    have hi0 : evE (Fn 5000 21) (LS s b2 b3 b4 b5 b6 b7 b8 b9 b10 b11 (.val (.lst (pts.map .int))) (.val (.str (ps.map Int.toNat))) (.val (.lst ((pts.flatMap u8S).map .int))) y15 y16 y17 (.val (.str (name16 wb))) .no .no .no .no .no .no .no) none (.item (.var 12) (.int 0)) = some (.int c0) := e_item (x := .lst (pts.map .int)) (e_var rfl) (e_int 0) (i_lst (n := 0) rfl (by decide) (by rw [hcs]; rfl))
    have ht := e_eqi hi0 (e_int 65279)
    have hg : pts.getD 0 0 = c0 := by rw [hcs]; rfl
    rw [hg]
    by_cases q : c0 = 65279
    · rw [decide_eq_true q] at ht
      rw [if_pos q]
      exact s_assign (e_ife_t ht (e_fromL (e_var rfl) (e_int 1) (by decide) (by unfold big; omega)))
    · rw [decide_eq_false q] at ht
      rw [if_neg q]
      exact s_assign (e_ife_f ht (e_var rfl))
  have hkept : m8 0 0 128 191 (bom8 (pts.flatMap u8S)) = ((if pts.getD 0 0 = 65279 then pts.drop 1 else pts)).map Int.toNat := by
    have hb := back_signs (c := c0) (ps := cs) (by rw [← hcs]; exact hpt)
    have hg : pts.getD 0 0 = c0 := by rw [hcs]; rfl
    rw [hg, hcs, hb]
    rfl
  have hkin : ∀ p ∈ ((if pts.getD 0 0 = 65279 then pts.drop 1 else pts)), 0 ≤ p ∧ p ≤ 1114111 := fun p hp => by
    have hm : p ∈ pts := by
      split at hp
      · exact List.mem_of_mem_drop hp
      · exact hp
    exact ⟨(hpt p hm).1, (hpt p hm).2.1⟩
  have hkl : ((if pts.getD 0 0 = 65279 then pts.drop 1 else pts)).length ≤ 100 := by
    split
    · rw [List.length_drop]; omega
    · omega
  have hbf2 : evE (Fn 5000 21) (LS s b2 b3 b4 b5 b6 b7 b8 b9 b10 b11 (.val (.lst (pts.map .int))) (.val (.str (ps.map Int.toNat))) (.val (.lst ((pts.flatMap u8S).map .int))) y15 y16 y17 (.val (.str (name16 wb))) (.val (.lst (((if pts.getD 0 0 = 65279 then pts.drop 1 else pts)).map .int))) .no .no .no .no .no .no) none (.prim .bytes [.var 14]) = some (.bytes (pts.flatMap u8S)) := e_prim (e_args (e_var rfl) e_args0) (p_bytes hfo (by omega))
  have hdec := F_dec8 (i := 21) (by omega) (pts.flatMap u8S) (fun x hx => (hfo.1 x hx).1) (by have := hfo.2; omega)
  rw [hkept] at hdec
  have h22 : exX (Fn 5000 21) 5000 (LS s b2 b3 b4 b5 b6 b7 b8 b9 b10 b11 (.val (.lst (pts.map .int))) (.val (.str (ps.map Int.toNat))) (.val (.lst ((pts.flatMap u8S).map .int))) y15 y16 y17 (.val (.str (name16 wb))) (.val (.lst (((if pts.getD 0 0 = 65279 then pts.drop 1 else pts)).map .int))) .no .no .no .no .no .no) (.ite (.cmp (.call 6 [.prim .bytes [.var 14], .str [85, 84, 70, 45, 56]]) [.ne] [.join (.comp (.prim .chr [.cvar]) (.var 19))]) [ .ret (.bool false)] [ ]) = some (.next (LS s b2 b3 b4 b5 b6 b7 b8 b9 b10 b11 (.val (.lst (pts.map .int))) (.val (.str (ps.map Int.toNat))) (.val (.lst ((pts.flatMap u8S).map .int))) y15 y16 y17 (.val (.str (name16 wb))) (.val (.lst (((if pts.getD 0 0 = 65279 then pts.drop 1 else pts)).map .int))) .no .no .no .no .no .no)) := s_no (e_neS (e_call (e_args hbf2 (e_args (e_str _) e_args0)) hdec) (e_join (e_comp (x := .lst (((if pts.getD 0 0 = 65279 then pts.drop 1 else pts)).map .int)) (e_var rfl) (hit _ hkl) (chrs _ _ hkin)) (join_cps _ (by rw [List.length_map]; unfold big; omega))))
  exact ⟨ps, pts, y15, y16, y17, _, _, fun r out h => exS_cons h13 (exS_cons h14 (exS_cons h15 (exS_cons h16 (exS_cons h17 (exS_cons h18 (exS_cons h19 (exS_cons h20 (exS_cons h21 (exS_cons h22 h))))))))), hP, hl5, hpts.symm⟩
end
end Mine

namespace Mine
open PySem PySem.W PySem.Calls PyProof.Rows PySem.SeqAt

noncomputable def CI : List XS := [ .ite (.cmp (.call 6 [.prim .bytes [.var 25], .var 22]) [.ne] [.join (.comp (.prim .chr [.item (.var 23) (.cvar)]) (.var 25))]) [ .ret (.bool false)] [ ]]
noncomputable def CE : List XS := [.assign 24 (.call 20 [.var 23, .var 12]), .ite (.cmp (.call 10 [.var 13, .var 22]) [.ne] [.prim .bytes [.var 24]]) [ .ret (.bool false)] [ ], .for_ (.one 25) (.lst [.var 24, .var 2, .var 8]) CI]

noncomputable def tb (w : Bool) (x : Int) : Int := (tabS w).getD x.toNat 0
theorem tb_in {w : Bool} {o : Int} (h0 : 0 ≤ o) (h1 : o < 256) : 0 ≤ tb w o ∧ tb w o ≤ 65535 := by
  cases w
  · exact usr_in h0 h1
  · exact win_in h0 h1
theorem tb_at {w : Bool} {o : Int} (h0 : 0 ≤ o) (h1 : o < 256) : (tabS w)[o.toNat]? = some (tb w o) := by
  have hlt : o.toNat < (tabS w).length := by rw [tab_len]; omega
  unfold tb
  rw [List.getD_eq_getElem?_getD, List.getElem?_eq_getElem hlt]
  rfl
theorem F_decS {i : Nat} {w : Bool} (hi : 6 < i) (l : List Int) (hx : ∀ x ∈ l, 0 ≤ x ∧ x < 256) (hb : l.length ≤ 1000) : Fn 5000 i 6 [.bytes l, .str (nameS w)] = some (.str (l.map fun x => (tb w x).toNat)) := by
  cases w
  · exact F_decUsr hi l hx hb
  · exact F_decWin hi l hx hb
theorem list_of {F : FTab} {σ : List Slot} {a : Mine.X} {x y : Int} {l : List Int} (h : evE F σ none a = some (.range x y 1)) (hr : rangeOk x y 1 = true) (hl : rangeList x y 1 = l) : evE F σ none (.prim .list [a]) = some (.lst (l.map .int)) := by
  refine e_prim (e_args h e_args0) ?_
  simp only [evPrim]
  rw [if_pos hr, hl]
noncomputable def refused : List (List Nat) := [[83, 104, 105, 102, 116, 95, 74, 73, 83], [117, 116, 102, 45, 56], [85, 84, 70, 45, 49, 54], [71, 66, 75], [119, 105, 110, 100, 111, 119, 115, 45, 49, 50, 53, 49], [114, 101, 112, 108, 97, 99, 101, 109, 101, 110, 116], []]
theorem refused_ok : ∀ l ∈ refused, l.length ≤ 1000 ∧ l.all (· < 1114112) = true := by decide

section
variable {s o bg pts ps : List Int} {b3 b4 b5 b6 b7 b9 b10 b11 b14 b15 b16 b17 b18 b19 b24 : Slot} {w : Bool}
theorem loopI (ls : List (List Int)) : ∀ z : Slot, (∀ l ∈ ls, octsOk l 100) → ∃ z', forL (turn (Fn 5000 21) 5000 (.one 25) CI) (ls.map fun l => .lst (l.map .int)) (LS s (.val (.lst (o.map .int))) b3 b4 b5 b6 b7 (.val (.lst (bg.map .int))) b9 b10 b11 (.val (.lst (pts.map .int))) (.val (.str (ps.map Int.toNat))) b14 b15 b16 b17 b18 b19 (.val (.lst (winT.map .int))) (.val (.lst (userT.map .int))) (.val (.str (nameS w))) (.val (.lst ((tabS w).map .int))) b24 z) = some (.next (LS s (.val (.lst (o.map .int))) b3 b4 b5 b6 b7 (.val (.lst (bg.map .int))) b9 b10 b11 (.val (.lst (pts.map .int))) (.val (.str (ps.map Int.toNat))) b14 b15 b16 b17 b18 b19 (.val (.lst (winT.map .int))) (.val (.lst (userT.map .int))) (.val (.str (nameS w))) (.val (.lst ((tabS w).map .int))) b24 z')) := by
  induction ls with
  | nil => intro z _; exact ⟨z, rfl⟩
  | cons l ls ih =>
    intro z h
    have hl := h l List.mem_cons_self
    have hl2 := hl.2
    obtain ⟨z', e⟩ := ih (.val (.lst (l.map .int))) fun x hx => h x (List.mem_cons_of_mem _ hx)
    refine ⟨z', ?_⟩
    have hs1 : setT (.one 25) (.lst (l.map .int)) (LS s (.val (.lst (o.map .int))) b3 b4 b5 b6 b7 (.val (.lst (bg.map .int))) b9 b10 b11 (.val (.lst (pts.map .int))) (.val (.str (ps.map Int.toNat))) b14 b15 b16 b17 b18 b19 (.val (.lst (winT.map .int))) (.val (.lst (userT.map .int))) (.val (.str (nameS w))) (.val (.lst ((tabS w).map .int))) b24 z) = some (LS s (.val (.lst (o.map .int))) b3 b4 b5 b6 b7 (.val (.lst (bg.map .int))) b9 b10 b11 (.val (.lst (pts.map .int))) (.val (.str (ps.map Int.toNat))) b14 b15 b16 b17 b18 b19 (.val (.lst (winT.map .int))) (.val (.lst (userT.map .int))) (.val (.str (nameS w))) (.val (.lst ((tabS w).map .int))) b24 (.val (.lst (l.map .int)))) := rfl
    have hb : evE (Fn 5000 21) (LS s (.val (.lst (o.map .int))) b3 b4 b5 b6 b7 (.val (.lst (bg.map .int))) b9 b10 b11 (.val (.lst (pts.map .int))) (.val (.str (ps.map Int.toNat))) b14 b15 b16 b17 b18 b19 (.val (.lst (winT.map .int))) (.val (.lst (userT.map .int))) (.val (.str (nameS w))) (.val (.lst ((tabS w).map .int))) b24 (.val (.lst (l.map .int)))) none (.prim .bytes [.var 25]) = some (.bytes l) := e_prim (e_args (e_var rfl) e_args0) (p_bytes hl (by omega))
    have hc : compL (fun d => evE (Fn 5000 21) (LS s (.val (.lst (o.map .int))) b3 b4 b5 b6 b7 (.val (.lst (bg.map .int))) b9 b10 b11 (.val (.lst (pts.map .int))) (.val (.str (ps.map Int.toNat))) b14 b15 b16 b17 b18 b19 (.val (.lst (winT.map .int))) (.val (.lst (userT.map .int))) (.val (.str (nameS w))) (.val (.lst ((tabS w).map .int))) b24 (.val (.lst (l.map .int)))) (some d) (.prim .chr [.item (.var 23) (.cvar)])) (l.map .int) = some (cps (l.map fun x => (tb w x).toNat)) := by
      rw [compL_ints (g := fun x => .str [(tb w x).toNat]) (fun _ => rfl) l fun x hx => ?_, strs_of]
      obtain ⟨x0, x1⟩ := hl.1 x hx
      obtain ⟨t0, t1⟩ := tb_in (w := w) x0 x1
      exact e_prim (e_args (e_item (x := .lst ((tabS w).map .int)) (e_var rfl) e_cvar (i_lst (n := x.toNat) (by omega) (by unfold big; omega) (by rw [List.getElem?_map, tb_at x0 x1]; rfl))) e_args0) (p_chr t0 (by omega))
    have hit : itemsOf (.lst (l.map D.int)) = some (l.map D.int) := by
      simp only [itemsOf]
      rw [if_pos (by rw [List.length_map]; unfold big; omega)]
    have s1 : exX (Fn 5000 21) 5000 (LS s (.val (.lst (o.map .int))) b3 b4 b5 b6 b7 (.val (.lst (bg.map .int))) b9 b10 b11 (.val (.lst (pts.map .int))) (.val (.str (ps.map Int.toNat))) b14 b15 b16 b17 b18 b19 (.val (.lst (winT.map .int))) (.val (.lst (userT.map .int))) (.val (.str (nameS w))) (.val (.lst ((tabS w).map .int))) b24 (.val (.lst (l.map .int)))) (.ite (.cmp (.call 6 [.prim .bytes [.var 25], .var 22]) [.ne] [.join (.comp (.prim .chr [.item (.var 23) (.cvar)]) (.var 25))]) [ .ret (.bool false)] [ ]) = some (.next (LS s (.val (.lst (o.map .int))) b3 b4 b5 b6 b7 (.val (.lst (bg.map .int))) b9 b10 b11 (.val (.lst (pts.map .int))) (.val (.str (ps.map Int.toNat))) b14 b15 b16 b17 b18 b19 (.val (.lst (winT.map .int))) (.val (.lst (userT.map .int))) (.val (.str (nameS w))) (.val (.lst ((tabS w).map .int))) b24 (.val (.lst (l.map .int))))) :=
      s_no (e_neS (e_call (e_args hb (e_args (e_var rfl) e_args0)) (F_decS (by omega) l hl.1 (by omega))) (e_join (e_comp (x := .lst (l.map .int)) (e_var rfl) hit hc) (join_cps _ (by rw [List.length_map]; unfold big; omega))))
    rw [List.map_cons]
    exact (fl_next ((turn_eq hs1).trans (exS_one.trans s1))).trans e

theorem loopE (ho : octsOk o 26) (hbg : octsOk bg 12) (hP : ∀ p ∈ ps, 0 ≤ p ∧ p ≤ 1114111) (hl5 : ps.length = 5) (hpts : pts = ps.map (fun p => rp p.toNat)) (ws : List Bool) : ∀ z22 z23 z24 z25 : Slot, ∃ y22 y23 y24 y25,
    forL (turn (Fn 5000 21) 5000 (.many [22, 23]) CE) (ws.map fun w => .tup [.str (nameS w), .lst ((tabS w).map .int)]) (LS s (.val (.lst (o.map .int))) b3 b4 b5 b6 b7 (.val (.lst (bg.map .int))) b9 b10 b11 (.val (.lst (pts.map .int))) (.val (.str (ps.map Int.toNat))) b14 b15 b16 b17 b18 b19 (.val (.lst (winT.map .int))) (.val (.lst (userT.map .int))) z22 z23 z24 z25) = some (.next (LS s (.val (.lst (o.map .int))) b3 b4 b5 b6 b7 (.val (.lst (bg.map .int))) b9 b10 b11 (.val (.lst (pts.map .int))) (.val (.str (ps.map Int.toNat))) b14 b15 b16 b17 b18 b19 (.val (.lst (winT.map .int))) (.val (.lst (userT.map .int))) y22 y23 y24 y25)) := by
  induction ws with
  | nil => intro z22 z23 z24 z25; exact ⟨z22, z23, z24, z25, rfl⟩
  | cons w ws ih =>
    intro z22 z23 z24 z25
    have hbig2 : (2 : Nat) ≤ big := by decide
    have hs1 : setT (.many [22, 23]) (.tup [.str (nameS w), .lst ((tabS w).map .int)]) (LS s (.val (.lst (o.map .int))) b3 b4 b5 b6 b7 (.val (.lst (bg.map .int))) b9 b10 b11 (.val (.lst (pts.map .int))) (.val (.str (ps.map Int.toNat))) b14 b15 b16 b17 b18 b19 (.val (.lst (winT.map .int))) (.val (.lst (userT.map .int))) z22 z23 z24 z25) = some (LS s (.val (.lst (o.map .int))) b3 b4 b5 b6 b7 (.val (.lst (bg.map .int))) b9 b10 b11 (.val (.lst (pts.map .int))) (.val (.str (ps.map Int.toNat))) b14 b15 b16 b17 b18 b19 (.val (.lst (winT.map .int))) (.val (.lst (userT.map .int))) (.val (.str (nameS w))) (.val (.lst ((tabS w).map .int))) z24 z25) := by
      simp only [setT, List.length_cons, List.length_nil]
      rw [if_pos (by simpa using hbig2)]
      rfl
    have hpin : ∀ c ∈ pts, 0 ≤ c ∧ c ≤ 1114111 := fun c hc => by
      rw [hpts] at hc
      obtain ⟨p, hp, rfl⟩ := List.mem_map.mp hc
      exact ⟨(rp_ok (hP p hp)).1, (rp_ok (hP p hp)).2.1⟩
    have hpl : pts.length = 5 := by rw [hpts, List.length_map]; exact hl5
    have htext : (ps.map Int.toNat).map rp = pts := by rw [hpts, List.map_map]; rfl
    have s1 : exX (Fn 5000 21) 5000 (LS s (.val (.lst (o.map .int))) b3 b4 b5 b6 b7 (.val (.lst (bg.map .int))) b9 b10 b11 (.val (.lst (pts.map .int))) (.val (.str (ps.map Int.toNat))) b14 b15 b16 b17 b18 b19 (.val (.lst (winT.map .int))) (.val (.lst (userT.map .int))) (.val (.str (nameS w))) (.val (.lst ((tabS w).map .int))) z24 z25) (.assign 24 (.call 20 [.var 23, .var 12])) = some (.next (LS s (.val (.lst (o.map .int))) b3 b4 b5 b6 b7 (.val (.lst (bg.map .int))) b9 b10 b11 (.val (.lst (pts.map .int))) (.val (.str (ps.map Int.toNat))) b14 b15 b16 b17 b18 b19 (.val (.lst (winT.map .int))) (.val (.lst (userT.map .int))) (.val (.str (nameS w))) (.val (.lst ((tabS w).map .int))) (.val (.lst ((pts.flatMap (encW w)).map .int))) z25)) :=
      s_assign (e_call (e_args (e_var rfl) (e_args (e_var rfl) e_args0)) (F_singles (by omega) hpin (by omega)))
    have hso : octsOk (pts.flatMap (encW w)) 55 := by
      refine ⟨fun x hx => ?_, ?_⟩
      · obtain ⟨c, hc, hx⟩ := List.mem_flatMap.mp hx
        exact encW_range (hpin c hc).1 x hx
      · have := flat_len (g := encW w) (n := 11) pts fun c hc => encW_len (hpin c hc).1 (hpin c hc).2
        omega
    have henc := F_encode (i := 21) (nm := nameS w) (g := encW w) (t := ps.map Int.toNat) (by omega) (by cases w <;> simp [knownL, nameS]) (fun c h0 h1 => F_octets_w (by omega) h0 h1) (fun c h0 h1 => encW_len h0 h1) (fun c h0 h1 => encW_range h0)
      (fun c hc => by obtain ⟨p, hp, rfl⟩ := List.mem_map.mp hc; have := hP p hp; omega) (by rw [List.length_map]; omega)
    rw [htext] at henc
    have s2 : exX (Fn 5000 21) 5000 (LS s (.val (.lst (o.map .int))) b3 b4 b5 b6 b7 (.val (.lst (bg.map .int))) b9 b10 b11 (.val (.lst (pts.map .int))) (.val (.str (ps.map Int.toNat))) b14 b15 b16 b17 b18 b19 (.val (.lst (winT.map .int))) (.val (.lst (userT.map .int))) (.val (.str (nameS w))) (.val (.lst ((tabS w).map .int))) (.val (.lst ((pts.flatMap (encW w)).map .int))) z25) (.ite (.cmp (.call 10 [.var 13, .var 22]) [.ne] [.prim .bytes [.var 24]]) [ .ret (.bool false)] [ ]) = some (.next (LS s (.val (.lst (o.map .int))) b3 b4 b5 b6 b7 (.val (.lst (bg.map .int))) b9 b10 b11 (.val (.lst (pts.map .int))) (.val (.str (ps.map Int.toNat))) b14 b15 b16 b17 b18 b19 (.val (.lst (winT.map .int))) (.val (.lst (userT.map .int))) (.val (.str (nameS w))) (.val (.lst ((tabS w).map .int))) (.val (.lst ((pts.flatMap (encW w)).map .int))) z25)) :=
      s_no (e_neB (e_call (e_args (e_var rfl) (e_args (e_var rfl) e_args0)) henc) (e_prim (e_args (e_var rfl) e_args0) (p_bytes hso (by omega))))
    obtain ⟨z', ei⟩ := loopI (s := s) (o := o) (bg := bg) (pts := pts) (ps := ps) (b3 := b3) (b4 := b4) (b5 := b5) (b6 := b6) (b7 := b7) (b9 := b9) (b10 := b10) (b11 := b11) (b14 := b14) (b15 := b15) (b16 := b16) (b17 := b17) (b18 := b18) (b19 := b19) (b24 := (.val (.lst ((pts.flatMap (encW w)).map .int)))) (w := w) [pts.flatMap (encW w), o, bg] z25 (fun l hl => by
      simp only [List.mem_cons, List.not_mem_nil, or_false] at hl
      rcases hl with rfl | rfl | rfl
      · exact ⟨hso.1, by have := hso.2; omega⟩
      · exact ⟨ho.1, by have := ho.2; omega⟩
      · exact ⟨hbg.1, by have := hbg.2; omega⟩)
    have s3 : exX (Fn 5000 21) 5000 (LS s (.val (.lst (o.map .int))) b3 b4 b5 b6 b7 (.val (.lst (bg.map .int))) b9 b10 b11 (.val (.lst (pts.map .int))) (.val (.str (ps.map Int.toNat))) b14 b15 b16 b17 b18 b19 (.val (.lst (winT.map .int))) (.val (.lst (userT.map .int))) (.val (.str (nameS w))) (.val (.lst ((tabS w).map .int))) (.val (.lst ((pts.flatMap (encW w)).map .int))) z25) (.for_ (.one 25) (.lst [.var 24, .var 2, .var 8]) CI) = some (.next (LS s (.val (.lst (o.map .int))) b3 b4 b5 b6 b7 (.val (.lst (bg.map .int))) b9 b10 b11 (.val (.lst (pts.map .int))) (.val (.str (ps.map Int.toNat))) b14 b15 b16 b17 b18 b19 (.val (.lst (winT.map .int))) (.val (.lst (userT.map .int))) (.val (.str (nameS w))) (.val (.lst ((tabS w).map .int))) (.val (.lst ((pts.flatMap (encW w)).map .int))) z')) := by
      refine s_forT (d := .lst ([pts.flatMap (encW w), o, bg].map fun l => .lst (l.map .int))) (e_lst (e_args (e_var rfl) (e_args (e_var rfl) (e_args (e_var rfl) e_args0)))) (?_ : itemsFor (.one 25) _ = some _) ei
      simp only [itemsFor, itemsOf]
      rw [if_pos (by rw [List.length_map]; show 3 ≤ big; decide)]
    obtain ⟨y22, y23, y24, y25, e⟩ := ih (.val (.str (nameS w))) (.val (.lst ((tabS w).map .int))) (.val (.lst ((pts.flatMap (encW w)).map .int))) z'
    refine ⟨y22, y23, y24, y25, ?_⟩
    rw [List.map_cons]
    exact (fl_next ((turn_eq hs1).trans (exS_cons s1 (exS_cons s2 (exS_one.trans s3))))).trans e

theorem phaseE (hs : s.length ≤ 63) (ho : octsOk o 26) (hbg : octsOk bg 12) (hP : ∀ p ∈ ps, 0 ≤ p ∧ p ≤ 1114111) (hl5 : ps.length = 5) (hpts : pts = ps.map (fun p => rp p.toNat)) : ∃ (nm : List Nat) (y23 y24 y25 : Slot),
    exS (Fn 5000 21) 5000 (LS s (.val (.lst (o.map .int))) b3 b4 b5 b6 b7 (.val (.lst (bg.map .int))) b9 b10 b11 (.val (.lst (pts.map .int))) (.val (.str (ps.map Int.toNat))) b14 b15 b16 b17 b18 b19 .no .no .no .no .no .no) [.assign 20 (.bin .add (.bin .add (.prim .list [.prim .range [.int 128]]) (.call 18 [])) (.prim .list [.prim .range [.int 160, .int 256]])), .assign 21 (.bin .add (.prim .list [.prim .range [.int 128]]) (.prim .list [.prim .range [.int 63360, .int 63488]])), .for_ (.many [22, 23]) (.lst [.tup [.str [119, 105, 110, 100, 111, 119, 115, 45, 49, 50, 53, 50], .var 20], .tup [.str [120, 45, 117, 115, 101, 114, 45, 100, 101, 102, 105, 110, 101, 100], .var 21]]) [ .assign 24 (.call 20 [.var 23, .var 12]), .ite (.cmp (.call 10 [.var 13, .var 22]) [.ne] [.prim .bytes [.var 24]]) [ .ret (.bool false)] [ ], .for_ (.one 25) (.lst [.var 24, .var 2, .var 8]) [ .ite (.cmp (.call 6 [.prim .bytes [.var 25], .var 22]) [.ne] [.join (.comp (.prim .chr [.item (.var 23) (.cvar)]) (.var 25))]) [ .ret (.bool false)] [ ]]], .assign 22 (.item (.lst [.str [83, 104, 105, 102, 116, 95, 74, 73, 83], .str [117, 116, 102, 45, 56], .str [85, 84, 70, 45, 49, 54], .str [71, 66, 75], .str [119, 105, 110, 100, 111, 119, 115, 45, 49, 50, 53, 49], .str [114, 101, 112, 108, 97, 99, 101, 109, 101, 110, 116], .str []]) (.bin .mod (.bin .fdiv (.call 11 [.var 0, .int 21]) (.int 2)) (.int 7)))] = some (.next (LS s (.val (.lst (o.map .int))) b3 b4 b5 b6 b7 (.val (.lst (bg.map .int))) b9 b10 b11 (.val (.lst (pts.map .int))) (.val (.str (ps.map Int.toNat))) b14 b15 b16 b17 b18 b19 (.val (.lst (winT.map .int))) (.val (.lst (userT.map .int))) (.val (.str nm)) y23 y24 y25)) ∧ nm ∈ refused := by
  have r1 : rangeOk 0 128 1 = true := rangeOk_small (by omega) (by omega) (.inl rfl)
  have r2 : rangeOk 160 256 1 = true := rangeOk_small (by omega) (by omega) (.inl rfl)
  have r3 : rangeOk 63360 63488 1 = true := rangeOk_small (by omega) (by omega) (.inl rfl)
  have l1 : rangeList 0 128 1 = (List.range 128).map (fun i : Nat => (i : Int)) := by decide +kernel
  have l2 : rangeList 160 256 1 = (List.range 96).map (fun i : Nat => (i : Int) + 160) := by decide +kernel
  have l3 : rangeList 63360 63488 1 = (List.range 128).map (fun i : Nat => (i : Int) + 63360) := by decide +kernel
  have h23 : exX (Fn 5000 21) 5000 (LS s (.val (.lst (o.map .int))) b3 b4 b5 b6 b7 (.val (.lst (bg.map .int))) b9 b10 b11 (.val (.lst (pts.map .int))) (.val (.str (ps.map Int.toNat))) b14 b15 b16 b17 b18 b19 .no .no .no .no .no .no) (.assign 20 (.bin .add (.bin .add (.prim .list [.prim .range [.int 128]]) (.call 18 [])) (.prim .list [.prim .range [.int 160, .int 256]]))) = some (.next (LS s (.val (.lst (o.map .int))) b3 b4 b5 b6 b7 (.val (.lst (bg.map .int))) b9 b10 b11 (.val (.lst (pts.map .int))) (.val (.str (ps.map Int.toNat))) b14 b15 b16 b17 b18 b19 (.val (.lst (winT.map .int))) .no .no .no .no .no)) := s_assign (e_catL (e_catL (list_of (e_prim (e_args (e_int 128) e_args0) rfl) r1 l1) (e_call e_args0 (F_windows (by omega))) (by simp [winMid, big])) (list_of (e_prim (e_args (e_int 160) (e_args (e_int 256) e_args0)) rfl) r2 l2) (by simp [winMid, big]))
  have h24 : exX (Fn 5000 21) 5000 (LS s (.val (.lst (o.map .int))) b3 b4 b5 b6 b7 (.val (.lst (bg.map .int))) b9 b10 b11 (.val (.lst (pts.map .int))) (.val (.str (ps.map Int.toNat))) b14 b15 b16 b17 b18 b19 (.val (.lst (winT.map .int))) .no .no .no .no .no) (.assign 21 (.bin .add (.prim .list [.prim .range [.int 128]]) (.prim .list [.prim .range [.int 63360, .int 63488]]))) = some (.next (LS s (.val (.lst (o.map .int))) b3 b4 b5 b6 b7 (.val (.lst (bg.map .int))) b9 b10 b11 (.val (.lst (pts.map .int))) (.val (.str (ps.map Int.toNat))) b14 b15 b16 b17 b18 b19 (.val (.lst (winT.map .int))) (.val (.lst (userT.map .int))) .no .no .no .no)) := s_assign (e_catL (list_of (e_prim (e_args (e_int 128) e_args0) rfl) r1 l1) (list_of (e_prim (e_args (e_int 63360) (e_args (e_int 63488) e_args0)) rfl) r3 l3) (by simp [big]))
  obtain ⟨y22, y23, y24, y25, e⟩ := loopE (s := s) (o := o) (bg := bg) (pts := pts) (ps := ps) (b3 := b3) (b4 := b4) (b5 := b5) (b6 := b6) (b7 := b7) (b9 := b9) (b10 := b10) (b11 := b11) (b14 := b14) (b15 := b15) (b16 := b16) (b17 := b17) (b18 := b18) (b19 := b19) ho hbg hP hl5 hpts [true, false] .no .no .no .no
  have h25 : exX (Fn 5000 21) 5000 (LS s (.val (.lst (o.map .int))) b3 b4 b5 b6 b7 (.val (.lst (bg.map .int))) b9 b10 b11 (.val (.lst (pts.map .int))) (.val (.str (ps.map Int.toNat))) b14 b15 b16 b17 b18 b19 (.val (.lst (winT.map .int))) (.val (.lst (userT.map .int))) .no .no .no .no) (.for_ (.many [22, 23]) (.lst [.tup [.str [119, 105, 110, 100, 111, 119, 115, 45, 49, 50, 53, 50], .var 20], .tup [.str [120, 45, 117, 115, 101, 114, 45, 100, 101, 102, 105, 110, 101, 100], .var 21]]) [ .assign 24 (.call 20 [.var 23, .var 12]), .ite (.cmp (.call 10 [.var 13, .var 22]) [.ne] [.prim .bytes [.var 24]]) [ .ret (.bool false)] [ ], .for_ (.one 25) (.lst [.var 24, .var 2, .var 8]) [ .ite (.cmp (.call 6 [.prim .bytes [.var 25], .var 22]) [.ne] [.join (.comp (.prim .chr [.item (.var 23) (.cvar)]) (.var 25))]) [ .ret (.bool false)] [ ]]]) = some (.next (LS s (.val (.lst (o.map .int))) b3 b4 b5 b6 b7 (.val (.lst (bg.map .int))) b9 b10 b11 (.val (.lst (pts.map .int))) (.val (.str (ps.map Int.toNat))) b14 b15 b16 b17 b18 b19 (.val (.lst (winT.map .int))) (.val (.lst (userT.map .int))) y22 y23 y24 y25)) := by
    refine s_forT (d := .lst ([true, false].map fun w => .tup [.str (nameS w), .lst ((tabS w).map .int)])) (e_lst (e_args (e_tup (e_args (e_str _) (e_args (e_var rfl) e_args0))) (e_args (e_tup (e_args (e_str _) (e_args (e_var rfl) e_args0))) e_args0))) (?_ : itemsFor (.many [22, 23]) _ = some _) e
    simp only [itemsFor, itemsOf]
    rw [if_pos (by rw [List.length_map]; decide)]
  have m0 := Int.emod_nonneg (dig s 21 / 2) (show (7 : Int) ≠ 0 by omega)
  have m1 := Int.emod_lt_of_pos (dig s 21 / 2) (show (0 : Int) < 7 by omega)
  have hlt : (dig s 21 / 2 % 7).toNat < refused.length := by show _ < 7; omega
  have hx : refused[(dig s 21 / 2 % 7).toNat]? = some refused[(dig s 21 / 2 % 7).toNat] := List.getElem?_eq_getElem hlt
  have hmem := List.getElem_mem hlt
  generalize refused[(dig s 21 / 2 % 7).toNat] = nm at *
  have hd : evE (Fn 5000 21) (LS s (.val (.lst (o.map .int))) b3 b4 b5 b6 b7 (.val (.lst (bg.map .int))) b9 b10 b11 (.val (.lst (pts.map .int))) (.val (.str (ps.map Int.toNat))) b14 b15 b16 b17 b18 b19 (.val (.lst (winT.map .int))) (.val (.lst (userT.map .int))) y22 y23 y24 y25) none (.call 11 [.var 0, .int 21]) = some (.int (dig s 21)) := e_call (e_args (e_var rfl) (e_args (e_int 21) e_args0)) (F_dig (k := 21) (by omega) hs (by omega))
  have h26 : exX (Fn 5000 21) 5000 (LS s (.val (.lst (o.map .int))) b3 b4 b5 b6 b7 (.val (.lst (bg.map .int))) b9 b10 b11 (.val (.lst (pts.map .int))) (.val (.str (ps.map Int.toNat))) b14 b15 b16 b17 b18 b19 (.val (.lst (winT.map .int))) (.val (.lst (userT.map .int))) y22 y23 y24 y25) (.assign 22 (.item (.lst [.str [83, 104, 105, 102, 116, 95, 74, 73, 83], .str [117, 116, 102, 45, 56], .str [85, 84, 70, 45, 49, 54], .str [71, 66, 75], .str [119, 105, 110, 100, 111, 119, 115, 45, 49, 50, 53, 49], .str [114, 101, 112, 108, 97, 99, 101, 109, 101, 110, 116], .str []]) (.bin .mod (.bin .fdiv (.call 11 [.var 0, .int 21]) (.int 2)) (.int 7)))) = some (.next (LS s (.val (.lst (o.map .int))) b3 b4 b5 b6 b7 (.val (.lst (bg.map .int))) b9 b10 b11 (.val (.lst (pts.map .int))) (.val (.str (ps.map Int.toNat))) b14 b15 b16 b17 b18 b19 (.val (.lst (winT.map .int))) (.val (.lst (userT.map .int))) (.val (.str nm)) y23 y24 y25)) :=
    s_assign (e_item (x := .lst (refused.map .str)) (k := dig s 21 / 2 % 7) rfl (e_mod (e_fdiv hd (e_int 2) (by decide)) (e_int 7) (by decide)) (i_lst (n := (dig s 21 / 2 % 7).toNat) (by omega) (by unfold big; omega) (by rw [List.getElem?_map, hx]; rfl)))
  exact ⟨nm, y23, y24, y25, exS_cons h23 (exS_cons h24 (exS_cons h25 (exS_one.trans h26))), hmem⟩
end

end Mine

namespace Mine
open PySem PySem.W PySem.Calls PyProof.Rows

/-- the text's view: its statements but the five that bind a name of the start-up -/
noncomputable def V : Program := PySem.W.view Challenge.pw_nz0090_01 [1, 3, 4, 6, 8, 9, 10, 11, 12, 13, 14, 15, 16, 18, 19, 20, 21, 22, 23, 24, 25, 26, 27, 28, 29]

noncomputable abbrev bm51 : List Value := [.ref 38, .type "Exception", .type "BaseException", .type "object"]
noncomputable abbrev obj51 : Obj := excClassObj "LeftOut" "LeftOut" 51 50 [.ref 38] bm51 true [] [] false none none (some (.ref 42)) none (some (.str "LeftOut" 228)) (some (.str "LeftOut" 236)) (some (.bool true)) "Exception.__new__"
noncomputable abbrev obj38 : Obj := ⟨.type "type", none, .cls { name := "HtmlFault", bases := [.type "Exception"], mro := .ref 38 :: bm51.tail, ns := 37, qualname := "HtmlFault", subclasses := [.ref 51] },
  #[some (.ref 22), none, some (.str "HtmlFault" 199), some (.str "HtmlFault" 207), some (.builtin "Exception.__new__"), some (.bool true)]⟩
noncomputable def key (P : Params) (x : PySem.Str) (t : Nat) (v : Value) : DictEntry := ⟨PyData.keyHash P x, .str x t, v⟩
/-- HtmlFault.__init__ as its def is written in the text -/
noncomputable def fd35 (P : Params) : FuncData := match (Challenge.pw_nz0090_01.main.body.drop 3).head? with
  | some (Stmt.ClassDef _ _ _ [Stmt.FunctionDef n ps b _ _ _ sc _ _ _] _ _ _ _ _ _ _) => ⟨n, "HtmlFault.__init__", ps, .stmts b, sc, 3, [], .none, .none, .none, .str "htmltree.faults" 197, none, .ref 34, .none, 0⟩
  | _ => default
noncomputable def KH (P : Params) : Frag := [
  (2, ⟨.none, none, .dict #[key P "type.__subclasses__.Exception.0" 224 (.int 38 0), key P "type.__subclasses__.Exception.n" 225 (.int 1 0)] 2, #[]⟩),
  (3, ⟨.type "dict", none, .dict #[key P "__name__" 165 (.str "law_nz0090_01" 334), key P "__doc__" 166 .none, key P "__package__" 167 .none, key P "__loader__" 168 (.builtin "__main__.__loader__#opaque"), key P "__spec__" 169 .none, key P "__annotations__" 170 (.ref 6), key P "__builtins__" 171 (.ref 4), key P "__file__" 173 (.str "/claim/cut.py" 172), key P "__cached__" 174 .none, key P "c1_reference" 196 (.ref 21), key P "HtmlFault" 227 (.ref 38), key P "LeftOut" 243 (.ref 51), key P "is_surrogate" 252 (.ref 60), key P "lead_of" 261 (.ref 67), key P "decode_utf8" 274 (.ref 74), key P "decode_utf16" 287 (.ref 81), key P "user_sign" 294 (.ref 88), key P "decode" 300 (.ref 93), key P "utf8_octets" 307 (.ref 100), key P "octet_of" 316 (.ref 107), key P "octets_of" 322 (.ref 112), key P "encode" 333 (.ref 119), key P "_law_digit" 343 (.ref 126), key P "_law_rows" 350 (.ref 133), key P "_law_form" 362 (.ref 140), key P "_law_spoiled" 368 (.ref 145), key P "_law_utf8" 384 (.ref 152), key P "_law_units" 395 (.ref 159), key P "_law_utf16" 406 (.ref 166), key P "_law_windows" 412 (.ref 173), key P "_law_point" 423 (.ref 180), key P "_law_singles" 429 (.ref 185), key P "_law_refusals" 440 (.ref 192), key P "law" 446 (.ref 197)] 34, #[]⟩),
  (34, ⟨.type "code", none, .fields #[.str "__init__" 211, .str "HtmlFault.__init__" 212, .str "/claim/cut.py" 213, .int 10 0, .int 2 0, .int 0 0, .int 0 0, .int 3 0, .ref 29, .bool true, .int 181 0, .ref 30, .none, .ref 31, .ref 32, .ref 33, .int 216 0, .int 10 0, .str "/claim/cut.py" 217], #[]⟩),
  (35, ⟨.type "function", none, .func (fd35 P), #[]⟩),
  (37, ⟨.type "dict", none, .dict #[key P "__module__" 206 (.str "htmltree.faults" 197), key P "__firstlineno__" 210 (.int 8 209), key P "__init__" 218 (.ref 35), key P "__static_attributes__" 220 (.ref 36), key P "__weakref__" 222 (.ref 39), key P "__doc__" 223 .none] 3, #[]⟩),
  (38, obj38),
  (50, ⟨.type "dict", none, .dict #[key P "__module__" 235 (.str "htmltree.faults" 197), key P "__firstlineno__" 239 (.int 13 238), key P "__static_attributes__" 240 (.ref 49), key P "__doc__" 241 .none] 2, #[]⟩),
  (51, obj51)]
noncomputable def HK : Hook := kHook KH [2, 3, 34, 35, 37, 38, 50, 51] fun _ => rfl

/-! the library's quick twins of what is asked (PySem.W.Fast.te..: a constant equals its twin) make the kernel's run short -/
theorem left : LeftO Challenge.pw_nz0090_01 V [] (fun s => xlAt V [] s && recOk [] s) HK.obs HK.val 2500 := by
  intro w
  first
  | delta openEnds fencedOpening topFrom
    rw [PySem.W.Fast.te14364793385576792824, PySem.W.Fast.te10274390034422433532, PySem.W.Fast.te1435165496053646825, PySem.W.Fast.te14289696077712309145, PySem.W.Fast.te14082659384304107361, PySem.W.Fast.te4187177175401517315, PySem.W.Fast.te5923862056798008813]
    kernel_rfl
  | kernel_rfl
theorem said : Challenge.rw_nz0090_01.wellSaid = true := by
  first
  | rw [PySem.W.Fast.te9446332074065402090]
    delta PySem.W.Fast.tw9446332074065402090 PySem.W.Fast.tw17960256430627541270 PySem.W.Fast.tw2436336058641802641 PySem.W.Fast.tw12908688711261696721
    repeat' with_reducible refine look_both ?_ ?_
    all_goals decide +kernel
  | kernel_rfl

noncomputable def dLaw : DefRec := match defOf V "law" with | some x => x.1 | none => ⟨"law", ⟨[], [], none, [], [], none, []⟩, [], default, default⟩
theorem def_law : defOf V Challenge.rw_nz0090_01.row.toRowW.name = some (dLaw, []) := by kernel_rfl
theorem the_law : Challenge.rw_nz0090_01.row.prog.theDef Challenge.rw_nz0090_01.row.name = some (dLaw.params, dLaw.body, dLaw.scope) := by kernel_rfl
theorem kw_law : kwWritten? dLaw.params.kwonlyargs dLaw.params.kw_defaults = some [] := by kernel_rfl
theorem looks_ok : (chainsOk V && opensWell Challenge.rw_nz0090_01.row.prog && (frees Challenge.rw_nz0090_01.row.toRowW && Challenge.rw_nz0090_01.row.within.isEmpty)) = true := by kernel_rfl
theorem tables_ok : Challenge.rw_nz0090_01.row.prog.tablesWhole = true := by kernel_rfl
theorem holds_of (walk : WalkO V [] (XL V []) HK.says Challenge.rw_nz0090_01.row.toRowW dLaw [] fun f vs => PySem.call f vs) : Challenge.rw_nz0090_01.Holds :=
  holds_law said fun h =>
    holds_open (q := V) (loose := []) (N := 2500) left HK.of HK.keeps (fun s e => xl_of s (Bool.and_eq_true_iff.mp e).1) XL.keeps def_law the_law kw_law (fun s e => recFacts_of (Bool.and_eq_true_iff.mp e).2) rfl h looks_ok
      ⟨rfl, rfl, rfl, rfl, rfl, tables_ok⟩ ⟨[.list []], by kernel_rfl, by kernel_rfl⟩ walk
end Mine

namespace Mine
open PySem PySem.W PySem.Calls PyProof.Rows PySem.SeqAt PySem.Builtin.ObjectAttr

theorem k_obj51 (P : Params) : (KH P).lookup 51 = some obj51 := by kernel_rfl
theorem k_init (P : Params) : findIn (KH P) (.ref 51) "__init__" = some (some (.ref 35)) := by kernel_rfl
theorem k_setattr (P : Params) : findIn (KH P) (.ref 51) "__setattr__" = some (some (.builtin "object.__setattr__")) := by kernel_rfl
theorem k_ga (P : Params) : findIn (KH P) (.ref 51) "__getattribute__" = some (some (.builtin "BaseException.__getattribute__")) := by kernel_rfl
theorem k_gaa (P : Params) : findIn (KH P) (.ref 51) "__getattr__" = some none := by kernel_rfl
theorem k_why (P : Params) : takerIn (KH P) 51 "why" = some none := by kernel_rfl
theorem k_fn35 (P : Params) : typeIn (KH P) (.ref 35) = some (.type "function") := by kernel_rfl

section
variable {prog : Program} {w : World} {A : Around} {E : Value → Shared → Prop} {h : Heap} {g : Array GenState} {d : Drawn} {t : Nat} {os : OsState}

theorem hC51 (X : (KH w.params).In h) : h.get? 51 = some obj51 := X _ _ (k_obj51 _)

theorem check_new51 {M : Model} {rest : List Value} {Q : Unit → Shared → Prop} (hC : h.get? 51 = some obj51) (hq : Q () ⟨h, g, d, t, os⟩) :
    wpAny M A (checkBuiltinCall "Exception.__new__" ⟨.ref 51 :: rest, []⟩) Q E ⟨h, g, d, t, os⟩ := by
  have F := PySem.F.excBase_Exception
  have hcont : (Value.ref 51 :: bm51).contains (.type "Exception") = true := by decide +kernel
  have hstar := F.noStar
  simp only [checkBuiltinCall, F.newKind, F.newSplit, F.newRow]
  repeat (first | refine wpAny_loadPart_at hC ?_ | (refine wpAny_isSubtype_exc hC ?_; rw [hcont]) | refine wpAny_staticBase_exc hC ?_ | refine wpAny_madeBy_exc hC ?_ | simp only [bne_self_eq_false, Bool.false_eq_true, if_false] | wp_step)
  exact hq

theorem new51 {R : Result → Shared → Prop} {rest : List Value} (hC : h.get? 51 = some obj51)
    (hq : R (.ok (.ret (.ref (h.objs.size + 1)))) ⟨(h.push { cls := .type "tuple", data := .seq rest.toArray }).push
      { cls := .ref 51, data := .fields #[.ref h.objs.size, .none, .none, .none, .bool false, .none] }, g, d, t, os⟩) (hrest : rest.length ≤ sizeLine) :
    codeAny (model prog w) A (.builtin "Exception.__new__" ⟨.ref 51 :: rest, []⟩) R ⟨h, g, d, t, os⟩ := by
  have F := PySem.F.excBase_Exception
  have hends := F.ends
  have hcB : (Value.ref 51 :: bm51).contains (.type "Exception") = true := by decide +kernel
  have hcA : (Value.ref 51 :: bm51).contains (.type "AttributeError") = false := by decide +kernel
  have hcN : (Value.ref 51 :: bm51).contains (.type "NameError") = false := by decide +kernel
  refine codeAny_builtinAt F.entry ?_
  unfold Builtin.«BaseException.__new__»
  refine PySem.wpAt_bind ?_
  show PySem.wpAt _ _ _ (stack >>= _) _ _ _
  refine PySem.wpAt_bind (PySem.wpAt_stack fun p below => PySem.wpAt_of_wpAny ?_)
  wp_walk
  refine PySem.wpAt_of_wpAny ?_
  rw [F.owner]
  repeat (first | with_reducible refine wpAny_madeHere_exc F.canon hC ?_ | with_reducible refine wpAny_loadPart_at hC ?_ | (with_reducible refine wpAny_isSubtype_exc hC ?_; first | rw [hcB] | rw [hcA] | rw [hcN]) | wp_step)
  show R _ _
  rw [Heap.size_push]
  exact hq

theorem check_init51 {M : Model} {e : Addr} {oe : Obj} {rest : List Value} {Q : Unit → Shared → Prop}
    (hC : h.get? 51 = some obj51) (he : h.get? e = some oe) (hcls : oe.cls = .ref 51) (hq : Q () ⟨h, g, d, t, os⟩) :
    wpAny M A (checkBuiltinCall "Exception.__init__" ⟨.ref e :: rest, []⟩) Q E ⟨h, g, d, t, os⟩ := by
  have F := PySem.F.excBase_Exception
  have hcB : (Value.ref 51 :: bm51).contains (.type "Exception") = true := by decide +kernel
  have hshort := F.noStar
  simp only [checkBuiltinCall, F.initKind, F.initSplit, F.initRow]
  repeat (first | (with_reducible refine wpAny_loadPart_at he ?_; rw [hcls]) | with_reducible refine wpAny_loadPart_at hC ?_ | (with_reducible refine wpAny_isSubtype_exc hC ?_; rw [hcB]) | wp_step)
  refine wpAny_onRaise ?_
  rw [show ∀ (a b : String) (n : Nat), Bind.check ⟨.positional, "*", "Exception", .self, [⟨"args", .varPos, false⟩]⟩ a b n (List.map (fun x => x.fst) ({ pos := Value.ref e :: rest } : Args).kw) = pure () from
    fun a b n => check_star_args _ _ _ _ _ _]
  exact wpAny_pure hq

theorem call_of51 {rest : List Value} {Q : Value → Shared → Prop} (X : (KH w.params).In h)
    (hq : wpAny (model prog w) (A.under (.builtin "type.__call__" ⟨.ref 51 :: rest, []⟩)) (call (.ref 35) (.ref (h.objs.size + 1) :: rest)) (fun r s' => r = .none ∧ Q (.ref (h.objs.size + 1)) s') E
      ⟨(h.push { cls := .type "tuple", data := .seq rest.toArray }).push { cls := .ref 51, data := .fields #[.ref h.objs.size, .none, .none, .none, .bool false, .none] }, g, d, t, os⟩) (hrest : rest.length ≤ sizeLine) :
    wpAny (model prog w) A (call (.ref 51) rest) Q E ⟨h, g, d, t, os⟩ := by
  have F := PySem.F.excBase_Exception
  have f1 := tc_lookup
  have f2 := tc_bind (.ref 51)
  have hC := hC51 X
  have hT : (⟨h, g, d, t, os⟩ : Shared).TypeIs (.ref 51) "type" := ⟨_, hC, rfl⟩
  refine wpAny_call (codeAny_of_tree ?_)
  show wpAny _ _ (callAny (.ref 51) _) _ _ _
  repeat (any_goals (first | assumption | with_reducible refine wpAny_loadPart_at hC ?_ | wp_step))
  refine ⟨rfl, ?_⟩
  refine codeAny_call_builtin_at (Code.quiet_builtin _ (by decide +kernel)) entry_typeCall (wpAny_check_type_call_sub hC ?_)
  repeat (first | with_reducible refine wpAny_loadPart_at hC ?_ | with_reducible refine wpAny_madeBy_exc hC ?_ | wp_step)
  refine codeAny_call_builtin_code (Code.quiet_builtin _ F.quiet) (check_new51 hC ?_)
  refine new51 (rest := rest) hC ?_ hrest
  show wpAny _ _ _ _ _ _
  have up : ∀ b o, h.get? b = some o → ((h.push { cls := .type "tuple", data := .seq rest.toArray }).push { cls := .ref 51, data := .fields #[.ref h.objs.size, .none, .none, .none, .bool false, .none] }).get? b = some o :=
    fun b o e => Heap.get?_push_of_some _ (Heap.get?_push_of_some _ e)
  have hC₁ := up _ _ hC
  have X₁ := X.keeps up
  have hget : ((h.push { cls := .type "tuple", data := .seq rest.toArray }).push
      { cls := .ref 51, data := .fields #[.ref h.objs.size, .none, .none, .none, .bool false, .none] }).get? (h.objs.size + 1) = some
      { cls := .ref 51, data := .fields #[.ref h.objs.size, .none, .none, .none, .bool false, .none] } := by heap_get
  have hcC : (Value.ref 51 :: bm51).contains (.ref 51) = true := by decide +kernel
  unfold isInstance
  repeat (first | with_reducible refine wpAny_loadPart_at hget ?_ | (with_reducible refine wpAny_isSubtype_exc hC₁ ?_; rw [hcC]) | wp_step)
  show wpAny _ _ (typeLookup (.ref 51) _) _ _ _
  refine (looks_findIn X₁ (k_init _)).at ?_
  refine wpAny_holding (wpAny_bind ((bind_fn X₁ _ (k_fn35 _)).at ?_))
  refine wpAny_bind (wpAny_mono hq (fun r s' hr => ?_) fun _ _ x => x)
  obtain ⟨rfl, hQ⟩ := hr
  wp_walk
  exact hQ

theorem osa51 {x : Addr} {o : Obj} {v : Value} {tk : Tok} {R : Result → Shared → Prop} (X : (KH w.params).In h) (hx : h.get? x = some o) (hc : o.cls = .ref 51) (hnc : ∀ c, o.data ≠ .cls c) (hdn : o.dict = none)
    (hq : ∀ h' tk', h'.get? x = some { o with dict := some h.objs.size } → h'.Ns1 h.objs.size (fun y => if y = "why" then some v else none) → (∀ b o', b ≠ x → h.get? b = some o' → h'.get? b = some o') →
      R (.ok (.ret .none)) ⟨h', g, d, tk', os⟩) :
    codeAny (model prog w) A (.call (.builtin "object.__setattr__") ⟨[.ref x, .str "why" tk, v], []⟩) R ⟨h, g, d, t, os⟩ := by
  have SF := PySem.F.store_Exception
  have hC := hC51 X
  have L0 : Looks (model prog w) h (typeOf (.ref x)) (.ref 51) := hc ▸ (Looks.ld hx).andThen .now
  have sub : Looks (model prog w) h (isInstance (.ref x) (.type "object")) true := L0.andThen (looks_mroIn X (by kernel_rfl))
  refine codeAny_call_builtin SF.slot.plain SF.entry (@check_slot (model prog w) _ _ ⟨h, g, d, t, os⟩ "object.__setattr__" "object" "__setattr__" (.ref x) [.str "why" tk, v] [] _ SF.kind SF.split sub (SF.args (.ref x) (.str "why" tk) v) ?_)
  have hpass := SF.passes (.ref x)
  have hm : Looks (model prog w) h (mroOf (.ref 51)) (.ref 51 :: bm51) := (looks_clsIn X (C := 51) (cd := { name := "LeftOut", bases := [.ref 38], mro := .ref 51 :: bm51, ns := 50, qualname := "LeftOut" }) (by kernel_rfl)).andThen .now
  have hfind : findIn (KH w.params) (.ref 51) "why" = some none := by kernel_rfl
  rw [osa_eq, refuse_eq]
  refine wpAny_bind (wpAny_bind (L0.at (wpAny_bind (hm.at ?_))))
  rw [refuseLoop_ref, bm51, refuseLoop_ref, hpass]
  refine wpAny_pure (wpAny_bind (L0.at (wpAny_bind ((looks_findIn X hfind).at (wpAny_bind (wpAny_pure ?_))))))
  have hcl := looks_clsIn (M := model prog w) X (C := 51) (cd := { name := "LeftOut", bases := [.ref 38], mro := .ref 51 :: bm51, ns := 50, qualname := "LeftOut" }) (by kernel_rfl)
  obtain ⟨oc, od, odt, osl⟩ := o
  dsimp only at hc hdn
  subst hc hdn
  have hx₁ : (h.push { cls := .type "dict", data := .dict #[] }).get? x = some ⟨.ref 51, none, odt, osl⟩ := Heap.get?_push_of_some _ hx
  have hxs : x ≠ h.objs.size := Nat.ne_of_lt (Heap.lt_size hx)
  have hgd : ((h.push { cls := .type "dict", data := .dict #[] }).update x fun o => { cls := o.cls, dict := some h.objs.size, data := o.data, slots := o.slots }).get? h.objs.size
      = some { cls := .type "dict", data := .dict #[] } :=
    (Heap.get?_update_ne _ _ _ _ hxs.symm).trans (Heap.get?_push_at rfl rfl)
  have hnd : ((h.push { cls := .type "dict", data := .dict #[] }).update x fun o => { cls := o.cls, dict := some h.objs.size, data := o.data, slots := o.slots }).Ns h.objs.size (fun _ => none) :=
    ⟨_, #[], _, hgd, rfl, fun e he => absurd he (by simp), fun _ => rfl⟩
  have body : wpAny (model prog w) A.in1 (storeInDict h.objs.size (.str "why" tk) "why" v)
      (fun fin s' => match fin with | .done f => R (.ok f) s' | .again c' => c'.quiet = true ∧ codeAny (model prog w) A c' R s') (fun e s' => R (.error e) s')
      ⟨(h.push { cls := .type "dict", data := .dict #[] }).update x fun o => { cls := o.cls, dict := some h.objs.size, data := o.data, slots := o.slots }, g, d, t, os⟩ := by
    unfold storeInDict newKeyGuard
    refine wpAny_bind (wpAny_pure (wpAny_bind (wpAny_nsSet1 (Heap.Ns1.of_empty hnd) fun h' hn' hs => ?_)))
    obtain ⟨oD, esD, epD, hoD, hdD, hcD⟩ := hn'.count (Within.cons "why" v Within.nil)
    refine wpAny_bind (wpAny_lookBehind hoD (by rw [hdD]; exact pastItsLine_dict (Nat.le_trans hcD (by rw [List.length_cons, List.length_nil, sizeLine_eq]; omega))) ?_)
    have hx' : h'.get? x = some ⟨.ref 51, some h.objs.size, odt, osl⟩ := by
      refine (hs.2 x hxs).trans (Heap.get?_update_self _ hx₁ ?_)
      have hfr := (Heap.get?_some_iff.mp hx).2
      cases odt <;> first | rfl | exact hfr
    refine wpAny_pure (hq h' _ hx' ?_ fun b ob hbx hb => ?_)
    · obtain ⟨o', es, ep, e1, e2, e3, eu, e4⟩ := hn'
      exact ⟨o', es, ep, e1, e2, e3, eu, fun y => by rw [e4 y]⟩
    · exact (hs.2 b (Nat.ne_of_lt (Heap.lt_size hb))).trans ((Heap.get?_update_ne _ _ _ _ hbx).trans (Heap.get?_push_of_some _ hb))
  refine wpAny_bind (wpAny_pure (wpAny_bind (wpAny_bind (wpAny_loadPart hx (wpAny_bind (hcl.at ?_))))))
  rw [if_neg (by decide)]
  dsimp only
  rw [if_neg (by simp [typeHasDict])]
  split
  · rename_i c hcd
    exact absurd rfl (hnc hcd)
  · refine wpAny_bind (wpAny_alloc' ?_)
    refine wpAny_bind (wpAny_update' hx₁ ?_)
    exact wpAny_pure body

theorem setattr51 {x : Addr} {o : Obj} {v : Value} {Q : Unit → Shared → Prop} (X : (KH w.params).In h) (hx : h.get? x = some o) (hc : o.cls = .ref 51) (hnc : ∀ c, o.data ≠ .cls c) (hdn : o.dict = none)
    (hq : ∀ h' tk', h'.get? x = some { o with dict := some h.objs.size } → h'.Ns1 h.objs.size (fun y => if y = "why" then some v else none) → (∀ b o', b ≠ x → h.get? b = some o' → h'.get? b = some o') →
      Q () ⟨h', g, d, tk', os⟩) : wpAny (model prog w) A (setAttr (.ref x) "why" v) Q E ⟨h, g, d, t, os⟩ := by
  have L0 : Looks (model prog w) h (typeOf (.ref x)) (.ref 51) := hc ▸ (Looks.ld hx).andThen .now
  refine wpAny_bind (wpAny_mkText (wpAny_bind (wpAny_bind (wpAny_bind (L0.at ((looks_findIn X (k_setattr _)).at (wpAny_holding ?_)))))))
  rw [PySem.F.store_object.slot.bind]
  refine wpAny_bind (wpAny_pure (wpAny_bind (wpAny_call (osa51 X hx hc hnc hdn fun h' tk' a b c => ?_))))
  exact wpAny_pure (wpAny_pure (hq h' tk' a b c))
end
end Mine

namespace Mine
open PySem PySem.W PySem.Calls PyProof.Rows PySem.SeqAt PySem.Builtin.ObjectAttr

theorem k_fd35 (P : Params) : (KH P).lookup 35 = some { cls := .type "function", data := .func (fd35 P) } := by kernel_rfl
theorem body35 (P : Params) : ∃ p1 p2 p3 p4 p5 p6 q1 q2 q3 q4, (fd35 P).body = .stmts [ .Expr (.Call (.Attribute (.Name "Exception" p1) "__init__" p2) [.Name "self" p3, .Name "why" p4] [] p5) p6, .Assign [.Attribute (.Name "self" q1) "why" q2] (.Name "why" q3) q4] ∧ (p2.endLine == p5.line) = true :=
  ⟨_, _, _, _, _, _, _, _, _, _, rfl, rfl⟩
theorem bind35 (P : Params) (a b : Value) : bindArgs (fd35 P) ⟨[a, b], []⟩ = pure [(("self" : PySem.Str), a), (("why" : PySem.Str), b)] := by kernel_rfl
theorem kind35 (P : Params) (L a : Addr) : (callEnvC (fd35 P) L a).kindOf "self" = some .local ∧ (callEnvC (fd35 P) L a).kindOf "why" = some .local ∧ (callEnvC (fd35 P) L a).kindOf "Exception" = some .globalImplicit := ⟨by kernel_rfl, by kernel_rfl, by kernel_rfl⟩
noncomputable def o34is (o : Obj) (q : PySem.Str) : Bool := match o.data with | .fields vs => (match vs.toList[1]? with | some (Value.str q' _) => q' == q | _ => false) | _ => false
theorem code35 (P : Params) : ((KH P).lookup 34).any (fun o => o34is o (fd35 P).qualname) = true := by kernel_rfl
theorem codeRec35 {P : Params} {h : Heap} (X : (KH P).In h) : h.CodeRec (fd35 P).code (fd35 P).qualname := by
  obtain ⟨o, ho, e⟩ := any_some (code35 P)
  unfold o34is at e
  split at e
  · rename_i vs hd
    split at e
    · rename_i q t hv
      exact ⟨34, o, vs, t, by kernel_rfl, X _ _ ho, hd, by rw [← beq_iff_eq.mp e]; rw [← Array.getElem?_toList]; exact hv⟩
    · cases e
  · cases e
end Mine

namespace Mine
open PySem PySem.W PySem.Calls PyProof.Rows PySem.SeqAt PySem.Builtin.ObjectAttr

section
variable {prog : Program} {w : World} {A : Around} {E : Value → Shared → Prop} {h : Heap} {g : Array GenState} {d : Drawn} {t : Nat} {os : OsState}

theorem init_base {e t0 : Addr} {rest : List Value} {Q : Value → Shared → Prop} (X : (KH w.params).In h) (he : h.get? e = some { cls := .ref 51, data := .fields #[.ref t0, .none, .none, .none, .bool false, .none] })
    (hq : ∀ h' tk', h'.get? e = some { cls := .ref 51, data := .fields #[.ref h.objs.size, .none, .none, .none, .bool false, .none] } → (∀ b o, b ≠ e → h.get? b = some o → h'.get? b = some o) → Q .none ⟨h', g, d, tk', os⟩)
    (hrest : rest.length ≤ sizeLine) :
    wpAny (model prog w) A (call (.builtin "Exception.__init__") (.ref e :: rest)) Q E ⟨h, g, d, t, os⟩ := by
  have F := PySem.F.excBase_Exception
  have hC := hC51 X
  refine wpAny_call (codeAny_call_builtin F.init.plain F.initEntry (check_init51 hC he rfl ?_))
  wp_walk
  refine hq _ _ ?_ fun b o hb ho => ?_
  · rw [Heap.get?_update_self _ (Heap.get?_push_of_some _ he) rfl]
    rfl
  · rw [Heap.get?_update_other _ _ (Ne.symm hb)]
    exact Heap.get?_push_of_some _ ho

theorem attr_init {expr : Bool} {Q : Value → Shared → Prop} (X : (KH w.params).In h) (hq : ∀ tk', Q (.builtin "Exception.__init__") ⟨h, g, d, tk', os⟩) :
    wpAny (model prog w) A (getAttr (.type "Exception") "__init__" expr) Q E ⟨h, g, d, t, os⟩ := by
  have ho : Looks (model prog w) h (opaqueClassAbove (.type "Exception")) none := Looks.of_pure (by kernel_rfl)
  have ht : Looks (model prog w) h (typeOf (.type "Exception")) (.type "type") := Looks.of_pure (by kernel_rfl)
  have hb : Looks (model prog w) h (hookBefore (.type "type")) none := looks_hook X (by kernel_rfl)
  exact cls_open (s := ⟨h, g, d, t, os⟩) X ho ht (by kernel_rfl) hb (by kernel_rfl) (r := .val (.builtin "Exception.__init__")) (by kernel_rfl) (wpAny_pure (handed_on (by kernel_rfl) (hq _)))

theorem method_init {pl : Sem Bool} {Q : Value × List Value → Shared → Prop} (X : (KH w.params).In h) (hq : ∀ tk', Q (.builtin "Exception.__init__", []) ⟨h, g, d, tk', os⟩) :
    wpAny (model prog w) A (getMethod (.type "Exception") "__init__" pl) Q E ⟨h, g, d, t, os⟩ := by
  have ht : Looks (model prog w) h (typeOf (.type "Exception")) (.type "type") := Looks.of_pure (by kernel_rfl)
  have hs : Looks (model prog w) h (specialOf (.type "Exception") "__getattribute__") (some (.builtin "type.__getattribute__")) := ht.andThen (looks_findIn X (by kernel_rfl))
  unfold getMethod
  refine wpAny_bind (hs.at ?_)
  dsimp only
  rw [if_pos canon_tga]
  exact wpAny_bind (attr_init X fun tk' => wpAny_pure (hq tk'))

/-- what is known of a LeftOut just made -/
structure MadeL (h h' : Heap) (e : Addr) (why : Value) : Prop where
  keeps : ∀ b o, h.get? b = some o → h'.get? b = some o
  new : h.get? e = none
  there : ∃ t0 dx, h'.get? e = some { cls := .ref 51, dict := some dx, data := .fields #[.ref t0, .none, .none, .none, .bool false, .none] } ∧ h.get? dx = none ∧ dx ≠ e ∧ h'.Ns dx (fun y => if y = "why" then some why else none)

theorem init_call {mg mb : PySem.Str → Option Value} {e t0 : Addr} {why : Value} {Q : Value → Shared → Prop} (X : (KH w.params).In h) (hroom : A.depth < recursionLimit) (hlim : h.NoLimit) (hg : h.Ns mainGlobals mg) (hb : h.Ns builtinsNs mb)
    (hmg : mg "Exception" = none) (hbi : mb "Exception" = some (.type "Exception")) (he : h.get? e = some { cls := .ref 51, data := .fields #[.ref t0, .none, .none, .none, .bool false, .none] }) (hKe : (KH w.params).lookup e = none)
    (hq : ∀ h' tk', (∀ b o, b ≠ e → h.get? b = some o → h'.get? b = some o) → (∃ t0 dx, h'.get? e = some { cls := .ref 51, dict := some dx, data := .fields #[.ref t0, .none, .none, .none, .bool false, .none] } ∧ h.get? dx = none ∧ dx ≠ e ∧ h'.Ns dx (fun y => if y = "why" then some why else none)) →
      Q .none ⟨h', g, d, tk', os⟩) :
    wpAny (model prog w) A (call (.ref 35) [.ref e, why]) Q E ⟨h, g, d, t, os⟩ := by
  obtain ⟨p1, p2, p3, p4, p5, p6, q1, q2, q3, q4, hbody, hline⟩ := body35 w.params
  refine wpAny_call (codeAny_call_cells hroom (X _ _ (k_fd35 _)) rfl hlim (codeRec35 X) hbody (bind35 _ _ _) (by kernel_rfl) ?_ ?_ (by kernel_rfl) (by kernel_rfl) (by kernel_rfl))
  · intro x hx
    left
    simp only [List.mem_cons, List.not_mem_nil, or_false] at hx
    rcases hx with rfl | rfl
    · exact (kind35 w.params 0 0).1
    · exact (kind35 w.params 0 0).2.1
  · intro s₁ x
    obtain ⟨kS, kW, kE⟩ := kind35 w.params h.objs.size 35
    have hkind : (callEnvC (fd35 w.params) h.objs.size 35).scope.kind = .function := by kernel_rfl
    have hint : interactive (callEnvC (fd35 w.params) h.objs.size 35) = false := by kernel_rfl
    have hgl : (callEnvC (fd35 w.params) h.objs.size 35).globals = mainGlobals := by kernel_rfl
    have hbl : (callEnvC (fd35 w.params) h.objs.size 35).builtins = builtinsNs := by kernel_rfl
    generalize henv : callEnvC (fd35 w.params) h.objs.size 35 = env at *
    have eL : env.locals = h.objs.size := by rw [← henv]; rfl
    have hmS : bindL env.kindOf [(("self" : PySem.Str), .ref e), (("why" : PySem.Str), why)] (fun _ => none) "self" = some (.ref e) := by
      simp only [bindL, kS, kW, if_true]
      rw [if_neg (by decide)]
    have hmW : bindL env.kindOf [(("self" : PySem.Str), .ref e), (("why" : PySem.Str), why)] (fun _ => none) "why" = some why := by
      simp only [bindL, kS, kW, if_true]
    have keep := x.toInCall.keep
    have ns := x.toInCall.ns
    obtain ⟨h1, t1, rfl⟩ := x.toInCall.same
    dsimp only at keep ns hmS hmW
    generalize bindL env.kindOf [(("self" : PySem.Str), .ref e), (("why" : PySem.Str), why)] (fun _ => none) = m at *
    have hne : e ≠ env.locals := by rw [eL]; exact Nat.ne_of_lt (Heap.lt_size he)
    have X₁ := X.keeps keep
    refine wpAny_execs_cons (wpAny_Expr ?_ hint rfl)
    rw [arm_eval_Call]
    show wpAny _ _ (eval (.Name "Exception" p1) env >>= _) _ _ _
    refine wpAny_bind (Name_function_global hkind kE (loadGlobal_builtin (mg := mg) (mb := mb) (hgl ▸ hg.keeps keep) hmg (hbl ▸ hb.keeps keep) hbi ?_) (by decide))
    refine wpAny_bind (wpAny_standAt ?_)
    have hform : methodCallForm (([.Name "self" p3, .Name "why" p4] : List Expr).length + ([] : List Keyword).length) (backTo p5 (starEach [.Name "self" p3, .Name "why" p4] env)) (backToKw p5 (keywordEach [] env)) = true := rfl
    have hpos : methodCallPos true (.Name "Exception" p1) env p2 p5 = pure p5 := by unfold methodCallPos; simp [hline]
    unfold methodCall
    rw [hform]
    refine wpAny_bind (wpAny_holding (method_init X₁ fun tk2 => ?_))
    refine wpAny_bind (wpAny_of_eq hpos ?_)
    refine callWith_builtin rfl (Calls.evalArgs_plain (Calls.spliced_cons ?_))
    refine wpAny_Name (wpAny_loadName_local hkind kS ns hmS ?_) (by decide)
    refine Calls.spliced_cons (wpAny_Name (wpAny_loadName_local hkind kW ns hmW (Calls.spliced_nil ?_)) (by decide))
    refine init_base X₁ (keep _ _ he) (fun h2 tk3 he2 k2 => ?_) (by simp [sizeLine_eq])
    have ns2 : h2.Ns env.locals m := by
      obtain ⟨o, es, ep, q1, q2, q3⟩ := ns
      exact ⟨o, es, ep, k2 _ _ (Ne.symm hne) q1, q2, q3⟩
    have keep2 : ∀ b o, b ≠ e → h.get? b = some o → h2.get? b = some o := fun b o n q => k2 b o n (keep b o q)
    have X₂ : (KH w.params).In h2 := fun a o q => keep2 a o (fun qe => by
      subst qe
      rw [hKe] at q
      cases q) (X _ _ q)
    refine wpAny_execs_cons (plainObj_wpAny_Assign_Attribute (wpAny_Name (wpAny_loadName_local hkind kW ns2 hmW (wpAny_Name (wpAny_loadName_local hkind kS ns2 hmS ?_) (by decide))) (by decide)) rfl)
    refine setattr51 X₂ he2 rfl (fun c q => nomatch q) rfl fun h3 tk4 he3 n3 k3 => ?_
    refine wpAny_execs_nil ?_
    refine hq h3 _ (fun b o n q => k3 b o n (keep2 b o n q)) ⟨_, _, he3, ?_, ?_, n3.ns⟩
    · cases q : h.get? h2.objs.size with
      | none => rfl
      | some o =>
        by_cases hq' : h2.objs.size = e
        · rw [← hq'] at he2
          exact absurd (Heap.lt_size he2) (Nat.lt_irrefl _)
        · exact absurd (Heap.lt_size (keep2 _ _ hq' q)) (Nat.lt_irrefl _)
    · exact Nat.ne_of_gt (Heap.lt_size he2)

theorem make51 {mg mb : PySem.Str → Option Value} {why : Value} {Q : Value → Shared → Prop} (X : (KH w.params).In h) (hroom : A.depth + 1 < recursionLimit) (hlim : h.NoLimit) (hg : h.Ns mainGlobals mg) (hb : h.Ns builtinsNs mb)
    (hmg : mg "Exception" = none) (hbi : mb "Exception" = some (.type "Exception")) (hq : ∀ h' tk' e, MadeL h h' e why → Q (.ref e) ⟨h', g, d, tk', os⟩) :
    wpAny (model prog w) A (call (.ref 51) [why]) Q E ⟨h, g, d, t, os⟩ := by
  refine call_of51 X ?_ (by simp [sizeLine_eq])
  have up : ∀ b o, h.get? b = some o → ((h.push { cls := .type "tuple", data := .seq [why].toArray }).push { cls := .ref 51, data := .fields #[.ref h.objs.size, .none, .none, .none, .bool false, .none] }).get? b = some o :=
    fun b o e => Heap.get?_push_of_some _ (Heap.get?_push_of_some _ e)
  have hfree : h.get? (h.objs.size + 1) = none := Heap.get?_none_of_le (Nat.le_succ _)
  refine init_call (X.keeps up) ?_ (hlim.keeps up) (hg.keeps up) (hb.keeps up) hmg hbi (t0 := h.objs.size) (by heap_get) ?_ fun h' tk' k there => ⟨rfl, hq h' tk' _ ⟨fun b o e => k b o (fun q => ?_) (up _ _ e), hfree, ?_⟩⟩
  · show A.depth + 1 < _
    exact hroom
  · cases q : (KH w.params).lookup (h.objs.size + 1) with
    | none => rfl
    | some o => have := X _ _ q; rw [hfree] at this; cases this
  · rw [q, hfree] at e; cases e
  · obtain ⟨t0, dx, a, b, c, n⟩ := there
    refine ⟨t0, dx, a, ?_, c, n⟩
    cases q : h.get? dx with
    | none => rfl
    | some o => rw [up _ _ q] at b; cases b
end
end Mine

namespace Mine
open PySem PySem.W PySem.Calls PyProof.Rows PySem.SeqAt PySem.Builtin.ObjectAttr

/-- kept, the frames' slots aside -/
noncomputable def Near (FS : List Addr) (h h' : Heap) : Prop := (∀ b o, h.get? b = some o → b ∉ FS → h'.get? b = some o) ∧ ∀ b o, h.get? b = some o → ∃ sl, h'.get? b = some { o with slots := sl }
theorem Near.refl {FS : List Addr} {h : Heap} : Near FS h h := ⟨fun _ _ e _ => e, fun _ o e => ⟨o.slots, e⟩⟩
theorem Near.of_keeps {FS : List Addr} {h h' : Heap} (k : ∀ b o, h.get? b = some o → h'.get? b = some o) : Near FS h h' := ⟨fun b o e _ => k b o e, fun b o e => ⟨o.slots, k b o e⟩⟩
theorem Near.trans {FS : List Addr} {h h' h'' : Heap} (x : Near FS h h') (y : Near FS h' h'') : Near FS h h'' :=
  ⟨fun b o e n => y.1 b o (x.1 b o e n) n, fun b o e => let ⟨_, e₁⟩ := x.2 b o e; let ⟨sl, e₂⟩ := y.2 b _ e₁; ⟨sl, e₂⟩⟩
theorem Near.ns {FS : List Addr} {h h' : Heap} {a : Addr} {m : PySem.Str → Option Value} (x : Near FS h h') (n : h.Ns a m) : h'.Ns a m := by
  obtain ⟨o, es, ep, ho, hd, r⟩ := n
  obtain ⟨sl, hs⟩ := x.2 a o ho
  exact ⟨_, es, ep, hs, hd, r⟩

section
variable {M : Model} {A : Around} {E : Value → Shared → Prop} {s : Shared} {env : Env} {outer : List Env} {L e : Addr} {base : Heap}

theorem entry_gen {oe : Obj} {vs : Array Value} {head : Value} {hadNext : Bool} {Q : Unit → Shared → Prop}
    (hfr : A.frames = some (env :: outer)) (hl : s.heap.FunFrames base (env :: outer)) (hf : env.frame = some L) (he : s.heap.get? e = some oe) (hd : oe.data = .fields vs) (hsz : 1 < vs.size)
    (h : ∀ h' T, h'.get? e = some { oe with data := .fields (vs.setIfInBounds 1 (.ref T)) } → s.heap.get? T = none → (∃ oT ts, h'.get? T = some oT ∧ oT.data = .fields ts ∧ ts[3]? = some (rawInt L)) →
      (∀ b o, s.heap.get? b = some o → b ≠ e → b ∉ (env :: outer).filterMap (·.frame) → h'.get? b = some o) → (∀ b o, s.heap.get? b = some o → b ≠ e → ∃ sl, h'.get? b = some { o with slots := sl }) → Q () { s with heap := h' }) :
    wpAny M A (do let a ← frameOf env; let pl ← entryPlaceOf L hadNext; let b ← EntryCells.newEntry head a .none (rawInt L) .none pl; setField (.ref e) 1 b) Q E s := by
  have hene : e ∉ (env :: outer).filterMap (·.frame) := fun hm => by
    obtain ⟨_, o, ho, hnf⟩ := hl.mem hm
    rw [he] at ho; injection ho with ho; subst ho; exact hnf vs hd
  refine wpAny_bind (wpAny_frameOf_fun hfr hl hf fun h₁ hs₁ => ?_)
  refine wpAny_bind (wpAny_entryPlaceOf fun pl hpl => ?_)
  unfold EntryCells.newEntry newFields
  refine wpAny_bind (wpAny_newObj_type ?_ (hpl.sizeOk5 _ _ _ _ _))
  have he₁ : h₁.get? e = some oe := (hs₁.2.1 e hene).trans he
  have he₂ := Heap.get?_push_of_some (h := h₁) { cls := .type "traceback", dict := none, data := .fields ([head, .ref L, .none, rawInt L, .none] ++ (if pl.isEmpty then List.replicate 6 Value.none else pl)).toArray } he₁
  refine wpAny_setField he₂ hd hsz ?_
  have hTe : h₁.objs.size ≠ e := Nat.ne_of_gt (Heap.lt_size he₁)
  have hd₃ := Obj.data_mapFields hd (·.setIfInBounds 1 (Value.ref h₁.objs.size))
  have he₃ := Heap.get?_update_self (Obj.mapFields (·.setIfInBounds 1 (Value.ref h₁.objs.size))) he₂ (Obj.isFreed_of_fields hd₃)
  have hT₃ := (Heap.get?_update_other (h₁.push { cls := .type "traceback", dict := none, data := .fields ([head, .ref L, .none, rawInt L, .none] ++ (if pl.isEmpty then List.replicate 6 Value.none else pl)).toArray })
    (Obj.mapFields (·.setIfInBounds 1 (Value.ref h₁.objs.size))) (Ne.symm hTe)).trans (Heap.get?_push_size h₁ rfl)
  have keep : ∀ b o, b ≠ e → h₁.get? b = some o →
      ((h₁.push { cls := .type "traceback", dict := none, data := .fields ([head, .ref L, .none, rawInt L, .none] ++ (if pl.isEmpty then List.replicate 6 Value.none else pl)).toArray }).update e (Obj.mapFields (·.setIfInBounds 1 (Value.ref h₁.objs.size)))).get? b = some o :=
    fun b o hbe hb => by
      rw [Heap.get?_update_other _ _ (Ne.symm hbe)]
      exact Heap.get?_push_of_some _ hb
  refine h _ h₁.objs.size ?_ ?_ ⟨_, _, hT₃, rfl, by first | (simp; done) | (rcases hpl with rfl | ⟨_, _, _, _, _, _, _, rfl⟩ <;> simp)⟩ (fun b o hb hbe hbf => keep b o hbe ((hs₁.2.1 b hbf).trans hb)) fun b o hb hbe => ?_
  · rw [he₃]
    obtain ⟨oc, od, oda, osl⟩ := oe
    dsimp only at hd
    subst hd
    rfl
  · cases q : s.heap.get? h₁.objs.size with
    | none => rfl
    | some o =>
      obtain ⟨sl, hs⟩ := hs₁.2.2 _ o q
      exact absurd (Heap.lt_size hs) (Nat.lt_irrefl _)
  · obtain ⟨sl, hs⟩ := hs₁.2.2 b o hb
    exact ⟨sl, keep b _ hbe hs⟩

theorem flight_gen {oe oT : Obj} {vs ts : Array Value} {T : Addr} {Q : Unit → Shared → Prop} (he : s.heap.get? e = some oe) (hd : oe.data = .fields vs) (h1 : vs[1]? = some (.ref T))
    (hT : s.heap.get? T = some oT) (hdT : oT.data = .fields ts) (hsz : 3 < ts.size)
    (h : ∀ h', (∃ oT' ts', h'.get? T = some oT' ∧ oT'.data = .fields ts' ∧ ts'[3]? = some .none) → (∀ b, b ≠ T → h'.get? b = s.heap.get? b) → Q () { s with heap := h' }) : wpAny M A (setFlight (.ref e) none) Q E s := by
  unfold setFlight
  refine wpAny_bind (wpAny_field he hd h1 ?_)
  rw [if_pos (show (Value.ref T != Value.none) = true from by simp)]
  exact wpAny_setField hT hdT hsz (h _ ⟨_, _, Heap.get?_update_self _ hT (Obj.isFreed_of_fields (Obj.data_mapFields hdT _)), Obj.data_mapFields hdT _, by simp [hsz]⟩ fun b hb => Heap.get?_update_other _ _ (Ne.symm hb))

/-- an exception of ours, seen from the heap `ref` that had it not yet -/
structure ExcIn (ref h : Heap) (e : Addr) (why fl : Value) : Prop where
  new : ref.get? e = none
  there : ∃ dx vs T oT ts, h.get? e = some { cls := .ref 51, dict := some dx, data := .fields vs } ∧ vs[1]? = some (.ref T) ∧ T ≠ e ∧ T ≠ dx ∧ dx ≠ e ∧ ref.get? T = none ∧ ref.get? dx = none ∧
    h.get? T = some oT ∧ oT.data = .fields ts ∧ ts[3]? = some fl ∧ h.Ns dx (fun y => if y = "why" then some why else none)
theorem ExcIn.back {ref ref' h : Heap} {e : Addr} {why fl : Value} (x : ExcIn ref h e why fl) (k : ∀ b o, ref'.get? b = some o → ∃ o', ref.get? b = some o') : ExcIn ref' h e why fl := by
  have f : ∀ b, ref.get? b = none → ref'.get? b = none := fun b hb => by
    cases q : ref'.get? b with
    | none => rfl
    | some o => obtain ⟨o', e⟩ := k b o q; rw [hb] at e; cases e
  obtain ⟨n, dx, vs, T, oT, ts, a1, a2, a3, a4, a5, a6, a7, a8⟩ := x
  exact ⟨f _ n, dx, vs, T, oT, ts, a1, a2, a3, a4, a5, f _ a6, f _ a7, a8⟩

theorem ns_not_fields {h : Heap} {a : Addr} {m : PySem.Str → Option Value} {o : Obj} {vs : Array Value} (n : h.Ns a m) (e : h.get? a = some o) (hd : o.data = .fields vs) : False := by
  obtain ⟨o', es, ep, ho, hd', _⟩ := n
  rw [e] at ho; cases ho; rw [hd] at hd'; cases hd'

/-- the flight goes on by a frame -/
theorem note_on {ref : Heap} {why : Value} {Q : Unit → Shared → Prop} (hfr : A.frames = some (env :: outer)) (hl : s.heap.FunFrames base (env :: outer)) (hf : env.frame = some L)
    (hin : ∀ b ∈ (env :: outer).filterMap (·.frame), ∃ o, ref.get? b = some o) (x : ExcIn ref s.heap e why .none) (nr : Near ((env :: outer).filterMap (·.frame)) ref s.heap)
    (h : ∀ h', ExcIn ref h' e why (rawInt L) → Near ((env :: outer).filterMap (·.frame)) ref h' → h'.FunFrames base (env :: outer) → Q () { s with heap := h' }) : wpAny M A (noteFrame (.ref e) env) Q E s := by
  obtain ⟨hn, dx, vs, T, oT, ts, he, h1, a3, a4, a5, a6, a7, hT, hdT, h3, hns⟩ := x
  have fr : ∀ b, ref.get? b = none → b ∉ (env :: outer).filterMap (·.frame) := fun b hb hm => by
    obtain ⟨o, q⟩ := hin b hm
    rw [hb] at q; cases q
  unfold noteFrame
  simp only [hf]
  refine wpAny_bind (wpAny_field he rfl h1 ?_)
  rw [if_pos (show (Value.ref T != Value.none) = true from by simp)]
  refine wpAny_bind (wpAny_field hT hdT h3 ?_)
  rw [if_neg (show ¬ ((Value.none == rawInt L) = true) from by simp [rawInt])]
  refine wpAny_bind (wpAny_setField hT hdT (Array.getElem?_eq_some_iff.mp h3).1 ?_)
  have other : ∀ b, b ≠ T → (s.heap.update T (Obj.mapFields (·.setIfInBounds 3 Value.none))).get? b = s.heap.get? b := fun b hb => Heap.get?_update_other _ _ (Ne.symm hb)
  have up : ∀ b o, ref.get? b = some o → b ≠ T ∧ b ≠ e ∧ b ≠ dx := fun b o q => ⟨fun z => by (rw [z, a6] at q; cases q), fun z => by (rw [z, hn] at q; cases q), fun z => by (rw [z, a7] at q; cases q)⟩
  have hl' : (s.heap.update T (Obj.mapFields (·.setIfInBounds 3 Value.none))).FunFrames base (env :: outer) := hl.of_keeps fun b o hb hnf => ⟨o, (other b (fun q => by
    rw [q, hT] at hb; injection hb with hb; subst hb; exact hnf ts hdT)).trans hb, rfl⟩
  refine entry_gen (s := { s with heap := s.heap.update T (Obj.mapFields (·.setIfInBounds 3 Value.none)) }) hfr hl' hf ((other e (Ne.symm a3)).trans he) rfl (Array.getElem?_eq_some_iff.mp h1).1 fun h' T' he' hT' hT2 k1 k2 => ?_
  obtain ⟨oT', ts', q1, q2, q3⟩ := hT2
  have hns' : h'.Ns dx (fun y => if y = "why" then some why else none) := by
    obtain ⟨o, es, ep, ho, r⟩ := hns
    exact ⟨o, es, ep, k1 dx o ((other dx (Ne.symm a4)).trans ho) a5 (fr dx a7), r⟩
  have hTr : ref.get? T' = none := by
    cases q : ref.get? T' with
    | none => rfl
    | some o =>
      obtain ⟨sl, hs⟩ := nr.2 _ _ q
      have := (other T' (up _ _ q).1).trans hs
      rw [hT'] at this; cases this
  have hTe' : T' ≠ e := fun q => by rw [q, other e (Ne.symm a3), he] at hT'; cases hT'
  have hTd' : T' ≠ dx := fun q => by
    obtain ⟨o, es, ep, ho, r⟩ := hns
    rw [q, other dx (Ne.symm a4), ho] at hT'; cases hT'
  refine h h' ⟨hn, dx, _, T', oT', ts', he', by simp [(Array.getElem?_eq_some_iff.mp h1).1], hTe', hTd', a5, hTr, a7, q1, q2, q3, hns'⟩ ⟨fun b o q nf => ?_, fun b o q => ?_⟩ ?_
  · exact k1 b o ((other b (up _ _ q).1).trans (nr.1 b o q nf)) (up _ _ q).2.1 nf
  · obtain ⟨sl, hs⟩ := nr.2 b o q
    obtain ⟨sl', hs'⟩ := k2 b _ ((other b (up _ _ q).1).trans hs) (up _ _ q).2.1
    exact ⟨sl', hs'⟩
  · refine hl'.of_keeps fun b o hb hnf => ?_
    have hbe : b ≠ e := fun q => by
      have q2 := (other e (Ne.symm a3)).trans he
      rw [q, q2] at hb; injection hb with hb; subst hb; exact hnf _ rfl
    obtain ⟨sl, hs⟩ := k2 b o hb hbe
    exact ⟨_, hs, rfl⟩

theorem flight_on {ref : Heap} {why fl : Value} {FS : List Addr} {Q : Unit → Shared → Prop} (hl : s.heap.FunFrames base outer) (x : ExcIn ref s.heap e why fl) (nr : Near FS ref s.heap)
    (h : ∀ h', ExcIn ref h' e why .none → Near FS ref h' → h'.FunFrames base outer → Q () { s with heap := h' }) : wpAny M A (setFlight (.ref e) none) Q E s := by
  obtain ⟨hn, dx, vs, T, oT, ts, he, h1, a3, a4, a5, a6, a7, hT, hdT, h3, hns⟩ := x
  refine flight_gen he rfl h1 hT hdT (Array.getElem?_eq_some_iff.mp h3).1 fun h' hT' k => ?_
  obtain ⟨oT', ts', q1, q2, q3⟩ := hT'
  have up : ∀ b o, ref.get? b = some o → b ≠ T := fun b o q z => by rw [z, a6] at q; cases q
  refine h h' ⟨hn, dx, vs, T, oT', ts', (k e (Ne.symm a3)).trans he, h1, a3, a4, a5, a6, a7, q1, q2, q3, ?_⟩ ⟨fun b o q nf => (k b (up _ _ q)).trans (nr.1 b o q nf), fun b o q => ?_⟩ ?_
  · obtain ⟨o, es, ep, ho, r⟩ := hns
    exact ⟨o, es, ep, (k dx (Ne.symm a4)).trans ho, r⟩
  · obtain ⟨sl, hs⟩ := nr.2 b o q
    exact ⟨sl, (k b (up _ _ q)).trans hs⟩
  · refine hl.of_keeps fun b o hb hnf => ⟨o, (k b fun q => ?_).trans hb, rfl⟩
    rw [q, hT] at hb; injection hb with hb; subst hb; exact hnf _ hdT

/-- the first frame is left -/
theorem leave_first {h : Heap} {ref : Heap} {why : Value} {Q : Unit → Shared → Prop} (hfr : A.frames = some (env :: outer)) (hl : h.FunFrames base (env :: outer)) (hf : env.frame = some L)
    (hin : ∀ b ∈ (env :: outer).filterMap (·.frame), ∃ o, h.get? b = some o) (x : MadeL h s.heap e why) (nr : Near (outer.filterMap (·.frame)) ref h) (hL : ref.get? L = none)
    (hQ : ∀ h', ExcIn ref h' e why .none → Near (outer.filterMap (·.frame)) ref h' → h'.FunFrames base outer → Q () { s with heap := h' }) : wpAny M A (leaving env (.ref e)) Q E s := by
  obtain ⟨kp, hn, t0, dx, he, hdx, hde, hns⟩ := x
  have rf : ∀ b, h.get? b = none → ref.get? b = none := fun b hb => by
    cases q : ref.get? b with
    | none => rfl
    | some o => obtain ⟨sl, hs⟩ := nr.2 b o q; rw [hb] at hs; cases hs
  have fr : ∀ b, h.get? b = none → b ∉ (env :: outer).filterMap (·.frame) := fun b hb hm => by
    obtain ⟨o, q⟩ := hin b hm
    rw [hb] at q; cases q
  have hl' : s.heap.FunFrames base (env :: outer) := hl.of_keeps fun b o hb _ => ⟨o, kp b o hb, rfl⟩
  unfold leaving noteFrame
  simp only [hf]
  refine wpAny_bind (wpAny_bind (wpAny_field he rfl (x := .none) rfl ?_))
  rw [if_neg (by decide)]
  refine entry_gen hfr hl' hf he rfl (by simp) fun h' T he' hT hT2 k1 k2 => ?_
  obtain ⟨oT, ts, q1, q2, q3⟩ := hT2
  have hhT : h.get? T = none := by
    cases q : h.get? T with
    | none => rfl
    | some o => have := kp _ _ q; rw [hT] at this; cases this
  have hTe : T ≠ e := fun q => by rw [q, he] at hT; cases hT
  have hTd : T ≠ dx := fun q => by
    obtain ⟨o, es, ep, ho, r⟩ := hns
    rw [q, ho] at hT; cases hT
  have hns' : h'.Ns dx (fun y => if y = "why" then some why else none) := by
    obtain ⟨o, es, ep, ho, r⟩ := hns
    exact ⟨o, es, ep, k1 dx o ho hde (fr dx hdx), r⟩
  have xx : ExcIn ref h' e why (rawInt L) := ⟨rf _ hn, dx, _, T, oT, ts, he', rfl, hTe, hTd, hde, rf _ hhT, rf _ hdx, q1, q2, q3, hns'⟩
  have ne : ∀ b o, ref.get? b = some o → b ≠ e := fun b o q z => by rw [z, rf _ hn] at q; cases q
  have nn : Near (outer.filterMap (·.frame)) ref h' := by
    refine ⟨fun b o q nf => k1 b o (kp b o (nr.1 b o q nf)) (ne _ _ q) fun hm => ?_, fun b o q => ?_⟩
    · rw [List.filterMap_cons, hf] at hm
      rcases List.mem_cons.mp hm with z | hm
      · rw [z, hL] at q; cases q
      · exact nf hm
    · obtain ⟨sl, hs⟩ := nr.2 b o q
      obtain ⟨sl', hs'⟩ := k2 b _ (kp _ _ hs) (ne _ _ q)
      exact ⟨sl', hs'⟩
  have hl2 : h'.FunFrames base (env :: outer) := hl'.of_keeps fun b o hb hnf => by
    have hbe : b ≠ e := fun q => by rw [q, he] at hb; injection hb with hb; subst hb; exact hnf _ rfl
    obtain ⟨sl, hs⟩ := k2 b o hb hbe
    exact ⟨_, hs, rfl⟩
  exact flight_on (s := { s with heap := h' }) hl2.2.2 xx nn hQ
end
end Mine

namespace Mine
open PySem PySem.W PySem.Calls PyProof.Rows PySem.SeqAt PySem.Builtin.ObjectAttr

section
variable {prog : Program} {w : World} {A : Around} {E : Value → Shared → Prop} {h₀ : Heap} {mg mb : PySem.Str → Option Value} {fa : Nat → Addr} {names fn : List PySem.Str} {F : FTab} {k wf n : Nat}
variable {env : Env} {W : AddrSet} {m : PySem.Str → Option Value} {ow : Nat → Option Addr} {σ : List Slot} {s : Shared}

theorem raiseStmt51 {x : Sem Value} {Q : Flow → Shared → Prop} (hh : A.handled = none)
    (h : wpAny (model prog w) A x (fun v s₁ => ∃ e t0 dx, v = .ref e ∧ s₁.heap.get? 51 = some obj51 ∧ s₁.heap.get? e = some { cls := .ref 51, dict := some dx, data := .fields #[.ref t0, .none, .none, .none, .bool false, .none] } ∧ E (.ref e) s₁) E s) :
    wpAny (model prog w) A (raiseStmt env (some x) none) Q E s := by
  have hcB : (Value.ref 51 :: bm51).contains (.type "BaseException") = true := by decide +kernel
  unfold raiseStmt
  refine wpAny_bind (wpAny_mono h (fun v s₁ h₁ => ?_) fun _ _ x => x)
  obtain ⟨e, t0, dx, rfl, hC, he, hE⟩ := h₁
  obtain ⟨hp, g, d, tk, os⟩ := s₁
  repeat (first | with_reducible refine wpAny_loadPart_at he ?_ | with_reducible refine wpAny_loadPart_at hC ?_ | (with_reducible refine wpAny_isSubtype_exc hC ?_; rw [hcB]) | wp_step)
  exact wpAny_raiseNew_none hh hE

theorem raise_ok (G : Gl h₀ mg mb fn fa) (X : (KH w.params).In h₀) (he : EnvOk env) (hA : Room A k) (hF : ∀ f ds d, F f ds = some d → CallOk prog w A h₀ (fa f) ds d) {arg : Mine.X} {ae : Expr} {l : List Nat} {np cp pos : Pos} {Q : Flow → Shared → Prop}
    (hc : chkE names fn arg env.scope none ae = true) (hk : env.scope.names.lookup ("LeftOut" : PySem.Str) = some .globalImplicit) (hd : evE F σ none arg = some (.str l)) (hi : EInv h₀ names env none W σ s.heap)
    (hq : ∀ s₁ h' tk e t, Keeps s s₁ → MadeL s₁.heap h' e (.str ⟨l.toArray⟩ t) → E (.ref e) { s₁ with heap := h', toks := tk }) :
    wpAny (model prog w) A (exec (.Raise (some (.Call (.Name "LeftOut" np) [ae] [] cp)) none pos) env) Q E s := by
  have hm : mg "LeftOut" = some (.ref 51) := mg_of X G.g (by kernel_rfl)
  have hbi : mb "Exception" = some (.type "Exception") := (G.bi _ (by decide +kernel)).trans PyProof.Rows.Boot.«Exception»
  have g := ev_all (σ := σ) G hA hF arg ae env none he hc
  have gs : Goods prog w A h₀ names F σ env none [arg] [ae] := .cons g .nil
  rw [arm_exec_Raise]
  refine wpAny_bind (wpAny_standAt (raiseStmt51 hA.hh ?_))
  show wpAny _ A (eval (.Call (.Name "LeftOut" np) [ae] [] cp) env >>= fun v => standAt pos >>= fun _ => pure v) _ _ _
  rw [Call_name]
  refine wpAny_bind (wpAny_bind (Name_function_global he.kind hk (loadGlobal_global (mg := mg) (he.glob ▸ G.g.keeps hi.base) hm ?_) (by decide)))
  unfold callWith
  refine wpAny_bind (wpAny_holding (wpAny_mono (evalArgs_ok (f := .ref 51) (pos := cp) gs (ds := [.str l]) (by simp [evEs, seqO, hd]) hi (Q := fun a s₁ => ∃ t, a = ⟨[.str ⟨l.toArray⟩ t], []⟩ ∧ Keeps s s₁) fun vs s₁ k₁ r₁ => ?_) (fun a s₁ h₁ => ?_) fun _ _ x => x.elim))
  · obtain ⟨v, rfl, rv⟩ := repL_one r₁
    unfold Rep at rv
    obtain ⟨t, rfl⟩ := rv
    exact ⟨t, rfl, k₁⟩
  obtain ⟨t, rfl, k₁⟩ := h₁
  have base₁ : ∀ b o, h₀.get? b = some o → s₁.heap.get? b = some o := fun b o e => Keeps.get k₁ _ _ (hi.base b o e)
  have X₁ := X.keeps base₁
  have hC₁ := hC51 X₁
  refine wpAny_bind (wpAny_standAt ?_)
  simp only [plain_args gs cp]
  obtain ⟨hp, gg, d, tk, os⟩ := s₁
  refine wpAny_bind (wpAny_keeperOf_exc hC₁ ?_)
  refine wpAny_bind (make51 X₁ ?_ (G.nolimit.keeps base₁) (G.g.keeps base₁) (G.b.keeps base₁) G.exc hbi fun h' tk' e hm => wpAny_bind (wpAny_holding (wpAny_point (wpAny_pure (wpAny_bind (wpAny_standAt (wpAny_pure ?_)))))))
  · have := hA.depth; omega
  obtain ⟨t0, dx, hh, _⟩ := hm.there
  exact ⟨e, t0, dx, rfl, hm.keeps _ _ hC₁, hh, hq _ _ _ _ t k₁ hm⟩

/-- entry into a function of the text -/
noncomputable def chkHead (names : List PySem.Str) (n : Nat) (d : DefRec) : Bool :=
  d.params.posonlyargs.isEmpty && d.params.kwonlyargs.isEmpty && d.params.vararg.isNone && d.params.kwarg.isNone && decide (d.params.args.map (·.arg) = names.take n) && decide names.Nodup &&
  d.scope.kind == .function && !d.scope.isCoroutine && !d.scope.isGenerator && (names.take n).all (fun y => d.scope.names.lookup y == some .local || d.scope.names.lookup y == some .cell) && decide (n ≤ names.length)

theorem fn_enter {dr : DefRec} {a : Addr} {o : Obj} {pm code doc : Value} {ds : List D} {vs : List Value} {R : Result → Shared → Prop} (hc : chkHead names n dr = true) (G : Gl h₀ mg mb fn fa) (hroom : A.depth < recursionLimit)
    (ho : h₀.get? a = some o) (hdata : o.data = .func (docDef dr.name dr.params dr.body dr.scope pm code doc)) (hcd : h₀.CodeRec code dr.name) (hlen : ds.length = n)
    (hb : ∀ b o, h₀.get? b = some o → s.heap.get? b = some o) (hw : WOk W s.heap) (hr : RepL W s.heap ds vs)
    (hq : ∀ env m h₁ t₁, EnvOk env → env.scope = dr.scope → env.frame = some env.locals → s.heap.get? env.locals = none → (∀ y c, env.cells.lookup y = some c → s.heap.get? c = none) → (∀ b o, s.heap.get? b = some o → h₁.get? b = some o) → SInv h₀ names env W m (fun _ => none) (start names.length n ds) h₁ →
      wpAny (model prog w) (A.deeper env) (execs dr.body env) (fun f s' => R (.ok (.ret (match f with | .ret v => v | _ => .none))) s')
        (fun e s' => wpAny (model prog w) (A.deeper env) (leaving env e) (fun _ s'' => R (.error e) s'') (fun e' s'' => R (.error e') s'') s') { s with heap := h₁, toks := t₁ }) :
    codeAny (model prog w) A (.call (.ref a) ⟨vs, []⟩) R s := by
  simp only [chkHead, Bool.and_eq_true, decide_eq_true_eq, beq_iff_eq, Bool.not_eq_true', List.isEmpty_iff, Option.isNone_iff_eq_none] at hc
  obtain ⟨⟨⟨⟨⟨⟨⟨⟨⟨⟨p1, p2⟩, p3⟩, p4⟩, p5⟩, hn⟩, c1⟩, c2⟩, c3⟩, c4⟩, hnn⟩ := hc
  have hvl : vs.length = n := by rw [hr.len, hlen]
  have htl : (names.take n).length = n := by rw [List.length_take]; omega
  have hnt : (names.take n).Nodup := hn.sublist (List.take_sublist _ _)
  have hkd : ∀ y ∈ names.take n, dr.scope.names.lookup y = some .local ∨ dr.scope.names.lookup y = some .cell := fun y hy => by
    have := List.all_eq_true.mp c4 y hy
    simpa using this
  have hbind := bind_plain (name := dr.name) (body := dr.body) (scope := dr.scope) (pm := pm) (cd := code) (doc := doc) (vs := vs) p1 p2 p3 p4 (by rw [p5]; exact hnt) (by rw [p5, htl, hvl])
  rw [p5] at hbind
  have hcellS : ∀ (L : Nat) (y : PySem.Str), dr.scope.names.lookup y = some .cell → ((cellsFrom L dr.scope.names []).lookup y).isSome = true := fun L y e =>
    cellsFrom_some _ _ _ _ (.inl (mem_of_lookup e))
  generalize hfd : docDef dr.name dr.params dr.body dr.scope pm code doc = fd at *
  have efs : fd.scope = dr.scope := by rw [← hfd]; rfl
  refine codeAny_call_cells hroom (hb _ _ ho) hdata (G.nolimit.keeps hb) (by rw [← hfd]; exact hcd.keeps hb) (by rw [← hfd]; rfl) hbind (by rw [← hfd]; rfl) ?_ ?_
    (by rw [efs]; exact c2) (by rw [efs]; exact c3) (by rw [efs]; exact c1)
  · intro x hx
    rw [efs]
    rcases hkd x.1 (List.of_mem_zip hx).1 with h | h
    · exact .inl h
    · exact .inr ⟨h, hcellS _ _ h⟩
  · intro s₁ x
    generalize hL : s.heap.objs.size = L at *
    have hfree : ∀ c, L ≤ c → s.heap.get? c = none := fun c hc => by
      cases q : s.heap.get? c with
      | none => rfl
      | some o' => exact absurd (show c < L from hL ▸ Heap.lt_size q) (Nat.not_lt.mpr hc)
    have hfree0 : ∀ c, L ≤ c → h₀.get? c = none := fun c hc => by
      cases q : h₀.get? c with
      | none => rfl
      | some o' => have := hb c o' q; rw [hfree c hc] at this; cases this
    have hfreeW : ∀ c, L ≤ c → ¬ W c := fun c hc q => by
      obtain ⟨o', e⟩ := hw c q; rw [hfree c hc] at e; cases e
    generalize henv : callEnvC fd L a = env at *
    have eL : env.locals = L := by rw [← henv]; rfl
    have eF : env.frame = some env.locals := by rw [← henv]; rfl
    have eS : env.scope = dr.scope := by rw [← henv, ← efs]; rfl
    have eC : env.cells = cellsFrom (L + 1) dr.scope.names [] := by rw [← henv, ← efs]; rfl
    have hE : EnvOk env := ⟨by rw [eS]; exact c1, by rw [← henv, ← hfd]; rfl, by rw [← henv, ← hfd]; rfl, fun y e => by
      rw [eS] at e
      rw [eC]
      exact Option.isSome_iff_exists.mp (hcellS _ _ e)⟩
    have ab : ∀ y c, env.cells.lookup y = some c → L < c := fun y c e => by
      have := x.above y c (mem_of_lookup e)
      rwa [eL] at this
    have keep := x.toInCall.keep
    have own0 : ∀ c, Own env (fun _ => none) c → L ≤ c := by
      rintro c (q | ⟨y, q⟩ | ⟨i, q⟩)
      · rw [q, eL]; exact Nat.le_refl _
      · exact Nat.le_of_lt (ab y c q)
      · cases q
    have up : ∀ c o', ¬ W c → s.heap.get? c = some o' → ¬ Wall W env (fun _ => none) c ∧ s₁.heap.get? c = some o' := fun c o' nW e => by
      refine ⟨fun q => ?_, keep _ _ e⟩
      rcases q with q | q
      · exact nW q
      · rw [hfree c (own0 c q)] at e
        cases e
    have hS : SInv h₀ names env W (bindL env.kindOf ((names.take n).zip vs) fun _ => none) (fun _ => none) (start names.length n ds) s₁.heap := by
      have par : ∀ (i : Nat) (y : PySem.Str) (d : D), names[i]? = some y → (start names.length n ds)[i]? = some (.val d) → (names.take n)[i]? = some y ∧ ∃ v, vs[i]? = some v ∧ Rep W s.heap d v := fun i y d h1 h2 => by
        have h3 := start_get h2
        have hi : i < n := by rw [← hlen]; exact (List.getElem?_eq_some_iff.mp h3).1
        refine ⟨by rw [List.getElem?_take_of_lt hi]; exact h1, hr.get h3⟩
      constructor
      · exact fun b o' e => keep _ _ (hb b o' e)
      · exact fun c q => let ⟨o', e⟩ := hw c q; ⟨o', keep _ _ e⟩
      · exact x.toInCall.ns
      · rw [eL]; exact hfree0 _ (Nat.le_refl _)
      · rw [eL]; exact hfreeW _ (Nat.le_refl _)
      · exact fun y c e => ⟨hfreeW _ (Nat.le_of_lt (ab y c e)), by rw [eL]; exact Nat.ne_of_gt (ab y c e), hfree0 _ (Nat.le_of_lt (ab y c e)), _, x.cell y c e⟩
      · exact fun y z c e1 e2 => name_of_addr x.apart (mem_of_lookup e1) (mem_of_lookup e2)
      · exact fun i c e => nomatch e
      · exact fun i j c e => nomatch e
      · exact fun i l e => absurd e start_own
      · intro i y d h1 h2 h3
        obtain ⟨h4, v, h5, h6⟩ := par i y d h1 h2
        exact ⟨v, bindL_at h4 h5 hnt h3, Rep.mono2 up _ _ h6⟩
      · intro i y d h1 h2 h3
        obtain ⟨h4, v, h5, h6⟩ := par i y d h1 h2
        obtain ⟨c, hc⟩ := hE.cells y h3
        refine ⟨c, v, hc, ?_, Rep.mono2 up _ _ h6⟩
        have := x.cell y c hc
        rwa [bindC_at h4 h5 hnt h3] at this
    obtain ⟨h1, t1, rfl⟩ := x.toInCall.same
    exact hq env _ h1 t1 hE eS eF (by rw [eL]; exact hfree _ (Nat.le_refl _)) (fun y c e => hfree _ (Nat.le_of_lt (ab y c e))) keep hS
end
end Mine

namespace Mine
open PySem PySem.W PySem.Calls PyProof.Rows PySem.SeqAt PySem.Builtin.ObjectAttr

noncomputable def chkRaise1 (names fn : List PySem.Str) (sc : Scope) (arg : Mine.X) (st : Stmt) : Bool :=
  onSRaise st fun e c _ => c.isNone && e.any fun e => onCall e fun g es ks _ => ks.isEmpty && onOne es fun ae => onName g fun g _ => g == "LeftOut" && sc.names.lookup g == some .globalImplicit && chkE names fn arg sc none ae
/-- statements, then the raise -/
noncomputable def chkRz (names fn : List PySem.Str) (sc : Scope) (arg : Mine.X) : List XS → List Stmt → Bool
  | [], ss => onOne ss fun st => chkRaise1 names fn sc arg st
  | x :: xs, ss => (match ss with | st :: ss => !isFreeze x && chkX names fn sc x st && chkRz names fn sc arg xs ss | [] => false)
/-- the raise stands within the first if -/
noncomputable def chkRzIf (names fn : List PySem.Str) (sc : Scope) (t arg : Mine.X) (ss : List Stmt) : Bool := ss.head?.any fun s0 => onSIf s0 fun te b l _ => l.isEmpty && onOne b fun st => chkE names fn t sc none te && chkRaise1 names fn sc arg st

section
variable {prog : Program} {w : World} {A : Around} {E : Value → Shared → Prop} {h₀ : Heap} {mg mb : PySem.Str → Option Value} {fa : Nat → Addr} {names fn : List PySem.Str} {F : FTab} {k wf n : Nat}
variable {env : Env} {W : AddrSet} {m : PySem.Str → Option Value} {ow : Nat → Option Addr} {σ : List Slot} {s : Shared}

noncomputable def RaisesAt (prog : Program) (w : World) (A : Around) (h₀ : Heap) (names : List PySem.Str) (env : Env) (σ : List Slot) (b : List Stmt) (l : List Nat) : Prop :=
  ∀ (W : AddrSet) (m : PySem.Str → Option Value) (ow : Nat → Option Addr) (s : Shared) (Q : Flow → Shared → Prop) (E : Value → Shared → Prop), SInv h₀ names env W m ow σ s.heap →
    (∀ s₂ m' h' tk e t, Step (Own env ow) s s₂ → s₂.heap.Ns env.locals m' → MadeL s₂.heap h' e (.str ⟨l.toArray⟩ t) → E (.ref e) { s₂ with heap := h', toks := tk }) → wpAny (model prog w) A (execs b env) Q E s

theorem raise1_ok (G : Gl h₀ mg mb fn fa) (X : (KH w.params).In h₀) (he : EnvOk env) (hA : Room A k) (hF : ∀ f ds d, F f ds = some d → CallOk prog w A h₀ (fa f) ds d) {arg : Mine.X} {st : Stmt} {l : List Nat}
    (hc : chkRaise1 names fn env.scope arg st = true) (hd : evE F σ none arg = some (.str l)) {Q : Flow → Shared → Prop} (x : SInv h₀ names env W m ow σ s.heap)
    (hq : ∀ s₂ m' h' tk e t, Step (Own env ow) s s₂ → s₂.heap.Ns env.locals m' → MadeL s₂.heap h' e (.str ⟨l.toArray⟩ t) → E (.ref e) { s₂ with heap := h', toks := tk }) : wpAny (model prog w) A (exec st env) Q E s := by
  obtain ⟨e, c, pos, rfl, h1⟩ := onSRaise_inv hc
  obtain ⟨h2, h3⟩ := Bool.and_eq_true_iff.mp h1
  obtain rfl := Option.isNone_iff_eq_none.mp h2
  obtain ⟨e, rfl, h4⟩ := any_some h3
  obtain ⟨g, es, ks, cp, rfl, h5⟩ := onCall_inv h4
  obtain ⟨h6, h7⟩ := Bool.and_eq_true_iff.mp h5
  obtain rfl := List.isEmpty_iff.mp h6
  obtain ⟨ae, rfl, h8⟩ := onOne_inv h7
  obtain ⟨g, np, rfl, h9⟩ := onName_inv h8
  simp only [Bool.and_eq_true, beq_iff_eq] at h9
  obtain ⟨⟨rfl, hk⟩, h10⟩ := h9
  exact raise_ok G X he hA hF h10 hk hd x.einv fun s₁ h' tk e t k₁ hm => hq s₁ m h' tk e t (Step.ofKeeps k₁) (x.ns.keeps (Keeps.get k₁)) hm

theorem rz_ok (hn : names.Nodup) (he : EnvOk env) (G : Gl h₀ mg mb fn fa) (X : (KH w.params).In h₀) (hA : Room A k) (hF : ∀ f ds d, F f ds = some d → CallOk prog w A h₀ (fa f) ds d) {arg : Mine.X} {l : List Nat} :
    ∀ (xs : List XS) (ss : List Stmt) (σ σ' : List Slot), chkRz names fn env.scope arg xs ss = true → exS F wf σ xs = some (.next σ') → evE F σ' none arg = some (.str l) → RaisesAt prog w A h₀ names env σ ss l
  | [], ss, σ, σ', hc, hx, hd => by
    intro W m ow s Q E x hq
    simp only [exS, Option.some.injEq, Out.next.injEq] at hx
    subst hx
    obtain ⟨st, rfl, hc⟩ := onOne_inv hc
    exact wpAny_execs_cons (raise1_ok G X he hA hF hc hd x hq)
  | x :: xs, ss, σ, σ', hc, hx, hd => by
    intro W m ow s Q E x' hq
    cases ss with
    | nil => exact falseNot hc
    | cons st ss =>
      replace hc : (!isFreeze x && chkX names fn env.scope x st && chkRz names fn env.scope arg xs ss) = true := hc
      simp only [Bool.and_eq_true, Bool.not_eq_true'] at hc
      simp only [exS] at hx
      split at hx
      · rename_i σ₁ hx1
        have ih := rz_ok hn he G X hA hF xs ss σ₁ σ' hc.2 hx hd
        have i1 := exX_ok (wf := wf) hn he G hA hF x st hc.1.2
        refine wpAny_execs_cons (wpAny_mono (i1 W m ow σ s _ _ hx1 x' fun f s₁ p => p) (fun f s₁ p => ?_) fun _ _ q => q.elim)
        obtain ⟨rfl, m₁, ow₁, st₁, ws₁, x₁⟩ := p
        exact ih W m₁ ow₁ s₁ Q E x₁ fun s₂ m' h' tk e t st₂ => hq s₂ m' h' tk e t (st₁.trans st₂ fun b o e n => own_not ws₁ e n)
      · cases hx
      · cases hx
      · cases hx

theorem rzIf_ok (he : EnvOk env) (G : Gl h₀ mg mb fn fa) (X : (KH w.params).In h₀) (hA : Room A k) (hF : ∀ f ds d, F f ds = some d → CallOk prog w A h₀ (fa f) ds d) {t arg : Mine.X} {ss : List Stmt} {l : List Nat}
    (hc : chkRzIf names fn env.scope t arg ss = true) (ht : evE F σ none t = some (.bool true)) (hd : evE F σ none arg = some (.str l)) : RaisesAt prog w A h₀ names env σ ss l := by
  intro W m ow s Q E x hq
  obtain ⟨s0, hs0, h1⟩ := any_some hc
  obtain ⟨te, b, l, pos, rfl, h2⟩ := onSIf_inv h1
  obtain ⟨h3, h4⟩ := Bool.and_eq_true_iff.mp h2
  obtain rfl := List.isEmpty_iff.mp h3
  obtain ⟨st, rfl, h5⟩ := onOne_inv h4
  clear hc h1 h2 h3 h4
  have hc := h5
  cases ss with
  | nil => cases hs0
  | cons _ rest =>
    cases hs0
    rw [Bool.and_eq_true] at hc
    refine wpAny_execs_cons (wpAny_If (wpAny_mono ((ev_all (σ := σ) G hA hF t te env none he hc.1).tr (Wall W env ow) s true (fun b s₁ => b = true ∧ Keeps s s₁) ht x.einv fun s₁ k₁ => ⟨rfl, k₁⟩) (fun b s₁ q => ?_) fun _ _ q => q.elim))
    obtain ⟨rfl, k₁⟩ := q
    rw [if_pos rfl]
    exact wpAny_execs_cons (raise1_ok G X he hA hF hc.2 hd (x.keeps (Keeps.get k₁)) fun s₂ m' h' tk e t st => hq s₂ m' h' tk e t ((Step.ofKeeps k₁).trans st fun _ _ _ n => n))

noncomputable def CallRaise (prog : Program) (w : World) (A : Around) (h₀ : Heap) (f : Addr) (ds : List D) (l : List Nat) : Prop :=
  ∀ (W : AddrSet) (s : Shared) (vs : List Value) (Q E : Value → Shared → Prop) (outer : List Env), (∀ b o, h₀.get? b = some o → s.heap.get? b = some o) → WOk W s.heap → RepL W s.heap ds vs → A.frames = some outer → s.heap.FunFrames h₀ outer →
    (∀ h' tk e t, ExcIn s.heap h' e (.str ⟨l.toArray⟩ t) .none → Near (outer.filterMap (·.frame)) s.heap h' → h'.FunFrames h₀ outer → E (.ref e) { s with heap := h', toks := tk }) → wpAny (model prog w) A (call (.ref f) vs) Q E s

theorem fn_raise {dr : DefRec} {a : Addr} {o : Obj} {pm code doc : Value} {ds : List D} {l : List Nat} (hc : chkHead names n dr = true) (G : Gl h₀ mg mb fn fa) (hA : Room A (k + 1))
    (ho : h₀.get? a = some o) (hdata : o.data = .func (docDef dr.name dr.params dr.body dr.scope pm code doc)) (hcd : h₀.CodeRec code dr.name) (hlen : ds.length = n)
    (hbody : ∀ env, EnvOk env → env.scope = dr.scope → RaisesAt prog w (A.deeper env) h₀ names env (start names.length n ds) dr.body l) : CallRaise prog w A h₀ a ds l := by
  intro W s vs Q E outer hb hw hr hfr hff hq
  refine wpAny_call (fn_enter hc G (by have := hA.depth; omega) ho hdata hcd hlen hb hw hr fun env m h₁ t₁ hE eS eF hL hcs keep hS => ?_)
  refine hbody env hE eS W m (fun _ => none) { s with heap := h₁, toks := t₁ } _ _ hS fun s₂ m' h' tk e t st ns hm => ?_
  have notOwn : ∀ b o, s.heap.get? b = some o → ¬ Own env (fun _ => none) b := fun b o e q => by
    rcases q with q | ⟨y, q⟩ | ⟨i, q⟩
    · rw [q, hL] at e; cases e
    · rw [hcs y b q] at e; cases e
    · cases q
  have kp : ∀ b o, s.heap.get? b = some o → s₂.heap.get? b = some o := fun b o e => st.kept b o (keep b o e) (notOwn b o e)
  obtain ⟨h₂, t₂, rfl, _, _⟩ := st
  dsimp only at kp ns hm ⊢
  have hff2 : h₂.FunFrames h₀ outer := hff.of_keeps fun b o e _ => ⟨o, kp b o e, rfl⟩
  have hbase : h₀.get? env.locals = none := by
    cases q : h₀.get? env.locals with
    | none => rfl
    | some o => have := hb _ _ q; rw [hL] at this; cases this
  have hff3 : h₂.FunFrames h₀ (env :: outer) := .cons (by rw [hE.kind]; decide) eF ns hbase hff2
  refine leave_first (s := { s with heap := h', toks := tk }) (Around.frames_deeper hfr) hff3 eF (fun b hm => let ⟨_, o, q, _⟩ := hff3.mem hm; ⟨o, q⟩) hm (Near.of_keeps kp) hL fun h3 x nr ff => ?_
  exact hq h3 tk e t x nr ff
end
end Mine

namespace Mine
open PySem PySem.W PySem.Calls PyProof.Rows PySem.SeqAt PySem.Builtin.ObjectAttr

theorem chk_view : allChk V = true := by decide +kernel
noncomputable def argNo (l : List Nat) : Mine.X := .bin .add (.str l) (.var 1)
noncomputable def noDec : List Nat := [110, 111, 32, 100, 101, 99, 111, 100, 101, 114, 32, 111, 102, 32]
noncomputable def noEnc : List Nat := [110, 111, 32, 101, 110, 99, 111, 100, 101, 114, 32, 111, 102, 32]
noncomputable def encT : Mine.X := .cmp (.var 1) [.notin] [.tup [.str [85, 84, 70, 45, 56], .str [85, 84, 70, 45, 49, 54, 66, 69], .str [85, 84, 70, 45, 49, 54, 76, 69], .str [119, 105, 110, 100, 111, 119, 115, 45, 49, 50, 53, 50], .str [120, 45, 117, 115, 101, 114, 45, 100, 101, 102, 105, 110, 101, 100]]]
theorem chk_dec : ((recsOf V).any fun d => d.name == "decode" && chkHead names_decode 2 d && chkRz names_decode fnNames d.scope (argNo noDec) P_decode.dropLast d.body) = true := by decide +kernel
theorem chk_enc : ((recsOf V).any fun d => d.name == "encode" && chkHead names_encode 2 d && chkRzIf names_encode fnNames d.scope encT (argNo noEnc) d.body) = true := by decide +kernel

noncomputable def knownNames : List (List Nat) := [[85, 84, 70, 45, 56], [85, 84, 70, 45, 49, 54, 66, 69], [85, 84, 70, 45, 49, 54, 76, 69], [119, 105, 110, 100, 111, 119, 115, 45, 49, 50, 53, 50], [120, 45, 117, 115, 101, 114, 45, 100, 101, 102, 105, 110, 101, 100]]

section
variable {F : FTab} {wf : Nat}
theorem dec_pre {d : D} {l : List Nat} (h : l ∉ knownNames) : exS F wf [.val d, .val (.str l)] P_decode.dropLast = some (.next [.val d, .val (.str l)]) := by
  simp only [knownNames, List.mem_cons, List.not_mem_nil, or_false, not_or] at h
  have b : ∀ {a : List Nat}, ¬ l = a → (l == a) = false := fun h => by simpa using h
  simp [P_decode, List.dropLast, exS, exX, evE, evEs, chain, evCmp, evEq, b h.1, b h.2.1, b h.2.2.1, b h.2.2.2.1, b h.2.2.2.2]
theorem enc_test {d : D} {l : List Nat} (h : l ∉ knownNames) : evE F (start 5 2 [d, .str l]) none encT = some (.bool true) := by
  have e : (knownNames.contains l) = false := by simpa using h
  show evE F [.val d, .val (.str l), .no, .no, .no] none encT = _
  simp only [encT, evE, evEs, chain, evCmp, seqO, evIn, strsOf, List.getElem?_cons_succ, List.getElem?_cons_zero]
  rw [if_pos (by decide)]
  simp only [Option.map_some]
  rw [show ([[85, 84, 70, 45, 56], [85, 84, 70, 45, 49, 54, 66, 69], [85, 84, 70, 45, 49, 54, 76, 69], [119, 105, 110, 100, 111, 119, 115, 45, 49, 50, 53, 50], [120, 45, 117, 115, 101, 114, 45, 100, 101, 102, 105, 110, 101, 100]] : List (List Nat)) = knownNames from rfl, e]
  rfl
theorem arg_ok {d : D} {l x : List Nat} {r : List Slot} (h : x.length + l.length ≤ big) : evE F (.val d :: .val (.str l) :: r) none (argNo x) = some (.str (x ++ l)) :=
  e_cats (e_str x) (e_var rfl) h
end

section
variable {prog p : Program} {w : World} {A : Around} {h₀ : Heap} {mg mb : PySem.Str → Option Value} {loose : List PySem.Str} {mean : ExcName → Option Value} {wf : Nat}

theorem dec_raises (T : Top V loose mean mg mb h₀) (hp : NoPrim mg) (X : (KH w.params).In h₀) (hA : Room A 7) {d : D} {l : List Nat} (hl : l ∉ knownNames) (hb : l.length ≤ 1000) :
    CallRaise prog w A h₀ (faOf mg 6) [d, .str l] (noDec ++ l) := by
  obtain ⟨dr, hd, hx⟩ := List.any_eq_true.mp chk_dec
  simp only [Bool.and_eq_true, beq_iff_eq] at hx
  obtain ⟨⟨hn, hh⟩, hr⟩ := hx
  obtain ⟨a, o, pm, code, doc, h1, h2, h3, h4⟩ := T.fn dr hd
  have e : faOf mg 6 = a := by
    unfold faOf
    rw [show fnNames[6]? = some ("decode" : PySem.Str) from rfl, ← hn]
    simp only
    rw [h1]
  rw [e]
  refine fn_raise hh (gl_of T chk_view hp) hA h2 h3 h4 rfl fun env hE eS => ?_
  have hA' : Room (A.deeper env) 6 := hA.deeper env
  refine rz_ok (wf := 5000) (by decide +kernel) hE (gl_of T chk_view hp) X hA' (all_ok (wf := 5000) T chk_view hp 6 _ (by omega) hA') _ _ _ [.val d, .val (.str l)] (by rw [eS]; exact hr) (dec_pre hl) (arg_ok ?_)
  unfold big noDec
  simp only [List.length_cons, List.length_nil]
  omega

theorem enc_raises (T : Top V loose mean mg mb h₀) (hp : NoPrim mg) (X : (KH w.params).In h₀) (hA : Room A 11) {d : D} {l : List Nat} (hl : l ∉ knownNames) (hb : l.length ≤ 1000) :
    CallRaise prog w A h₀ (faOf mg 10) [d, .str l] (noEnc ++ l) := by
  obtain ⟨dr, hd, hx⟩ := List.any_eq_true.mp chk_enc
  simp only [Bool.and_eq_true, beq_iff_eq] at hx
  obtain ⟨⟨hn, hh⟩, hr⟩ := hx
  obtain ⟨a, o, pm, code, doc, h1, h2, h3, h4⟩ := T.fn dr hd
  have e : faOf mg 10 = a := by
    unfold faOf
    rw [show fnNames[10]? = some ("encode" : PySem.Str) from rfl, ← hn]
    simp only
    rw [h1]
  rw [e]
  refine fn_raise hh (gl_of T chk_view hp) hA h2 h3 h4 rfl fun env hE eS => ?_
  have hA' : Room (A.deeper env) 10 := hA.deeper env
  refine rzIf_ok hE (gl_of T chk_view hp) X hA' (all_ok (wf := 5000) T chk_view hp 10 _ (by omega) hA') (by rw [eS]; exact hr) (enc_test hl) (arg_ok ?_)
  unfold big noEnc
  simp only [List.length_cons, List.length_nil]
  omega
end
end Mine

namespace Mine
open PySem PySem.W PySem.Calls PyProof.Rows PySem.SeqAt PySem.Builtin.ObjectAttr

noncomputable def cd51 : ClassData := { name := "LeftOut", bases := [.ref 38], mro := .ref 51 :: bm51, ns := 50, qualname := "LeftOut" }
theorem k_cls51 (P : Params) : clsIn (KH P) 51 = some cd51 := by kernel_rfl
theorem k_find_why (P : Params) : findIn (KH P) (.ref 51) "why" = some none := by kernel_rfl

theorem look_ns {h : Heap} {a : Addr} {m : PySem.Str → Option Value} (n : h.Ns a m) (y : PySem.Str) : ∃ o, h.get? a = some o ∧ lookIn y o = some (m y) := by
  obtain ⟨o, es, ep, ho, hd, hk, hm⟩ := n
  refine ⟨o, ho, ?_⟩
  unfold lookIn
  rw [hd]
  dsimp only
  rw [← hm y]
  unfold nsFind findBy
  rw [← Array.find?_toList]
  cases q : es.toList.find? (·.key.isStr y) with
  | some e => rfl
  | none =>
    have hany : es.toList.any (·.refKey) = false := by
      rw [List.any_eq_false]
      intro e he
      obtain ⟨n, t, h⟩ := hk e (by simpa using he)
      simp [DictEntry.refKey, h]
    simp only [hany]
    rfl

section
variable {prog : Program} {w : World} {A : Around} {E : Value → Shared → Prop} {s : Shared}

theorem getattr51 {e dx : Addr} {vs : Array Value} {why : Value} {expr : Bool} {Q : Value → Shared → Prop} (X : (KH w.params).In s.heap) (he : s.heap.get? e = some { cls := .ref 51, dict := some dx, data := .fields vs })
    (hns : s.heap.Ns dx (fun y => if y = "why" then some why else none)) (hh : handedIn why = true) (hq : Q why { s with toks := s.toks + 1 }) : wpAny (model prog w) A (getAttr (.ref e) "why" expr) Q E s := by
  have FX := PySem.F.attr_Exception
  obtain ⟨od, hod, hlook⟩ := look_ns hns "why"
  rw [if_pos rfl] at hlook
  have I : InstAt s.heap e { cls := .ref 51, dict := some dx, data := .fields vs } 51 (some od) := ⟨he, rfl, rfl, hod⟩
  have ht : Looks (model prog w) s.heap (typeOf (.ref e)) (.ref 51) := I.type
  have hf : findObj (KH w.params) 51 (some od) "why" = some (.value why) := by
    unfold findObj PySem.W.ownOf
    rw [k_cls51]
    simp only [Option.bind_some, k_find_why, hlook]
    rfl
  have hb : Looks (model prog w) s.heap (hookBefore (.ref 51)) none := looks_hook X (by kernel_rfl)
  have hsub : Looks (model prog w) s.heap (isInstance (.ref e) (.type "BaseException")) true := ht.andThen (looks_mroIn X (by kernel_rfl))
  refine wpAny_bind (wpAny_mkText (wpAny_holding (wpAny_bind (ht _ _ _ _ (fun _ _ e => e) (wpAny_bind (looks_findIn X (k_ga _) _ _ _ _ (fun _ _ e => e) ?_))))))
  dsimp only
  rw [show (onTheHeap (Value.ref 51) && Value.builtin "BaseException.__getattribute__" == Value.builtin "object.__getattribute__") = false from by
    rw [show (Value.builtin "BaseException.__getattribute__" == Value.builtin "object.__getattribute__") = false from by decide +kernel, Bool.and_false], if_neg (by decide)]
  refine wpAny_bind (hb _ _ _ _ (fun _ _ e => e) (wpAny_bind (wpAny_attempt (wpAny_holding ?_))))
  unfold callGetattribute
  rw [show (expr && onTheHeap (Value.builtin "BaseException.__getattribute__")) = false from Bool.and_false _, if_neg (by decide)]
  unfold boundAndCalled
  rw [FX.ga.bind]
  refine wpAny_bind (wpAny_pure ?_)
  show wpAny _ _ (call (.builtin "BaseException.__getattribute__") [.ref e, .str "why" s.toks]) _ _ _
  refine wpAny_call ?_
  refine codeAny_call_builtin FX.ga.plain PySem.F.entry_bexc_ga ?_
  refine @check_slot (model prog w) _ _ { s with toks := s.toks + 1 } "BaseException.__getattribute__" "BaseException" "__getattribute__" (.ref e) [.str "why" s.toks] [] _ (by decide +kernel) (by decide +kernel) hsub (PySem.F.args_bexc_ga _ _) ?_
  obtain ⟨hp, g, d, t, os⟩ := s
  dsimp only at X I ht hf ⊢
  have L1 := looks_find (M := model prog w) X I hf
  refine wpAny_bind (wpAny_pure (wpAny_bind (wpAny_pure (wpAny_bind (ht.at (wpAny_bind (L1.at ?_)))))))
  refine wpAny_pure ?_
  exact handed_on hh hq
end
end Mine

namespace Mine
open PySem PySem.W PySem.Calls PyProof.Rows PySem.SeqAt PySem.Builtin.ObjectAttr

section
variable {prog : Program} {w : World} {A : Around} {E : Value → Shared → Prop} {h₀ : Heap} {mg mb : PySem.Str → Option Value} {fa : Nat → Addr} {names fn : List PySem.Str} {F : FTab} {k wf n : Nat}
variable {env : Env} {W : AddrSet} {m m' : PySem.Str → Option Value} {ow : Nat → Option Addr} {σ : List Slot} {s : Shared} {h h' : Heap}

theorem SInv.near {FS : List Addr} (x : SInv h₀ names env W m ow σ h) (nr : Near FS h h') (hin : ∀ b ∈ FS, b = env.locals ∨ W b) (h0 : ∀ b ∈ FS, h₀.get? b = none) : SInv h₀ names env W m ow σ h' := by
  have up : ∀ b o, ¬ Wall W env ow b → h.get? b = some o → ¬ Wall W env ow b ∧ h'.get? b = some o := fun b o n e => ⟨n, nr.1 b o e fun hm => by
    rcases hin b hm with q | q
    · exact n (.inr (.inl q))
    · exact n (.inl q)⟩
  constructor
  · exact fun b o e => nr.1 b o (x.base b o e) fun hm => by rw [h0 b hm] at e; cases e
  · exact fun b q => by
      obtain ⟨o, e⟩ := x.wok b q
      obtain ⟨sl, e'⟩ := nr.2 b o e
      exact ⟨_, e'⟩
  · exact nr.ns x.ns
  · exact x.lnew
  · exact x.lW
  · exact fun y c e => by
      obtain ⟨a, b, c', v, o, ho, hd⟩ := x.cW y c e
      exact ⟨a, b, c', v, o, nr.1 c o ho fun hm => by rcases hin c hm with q | q; exact b q; exact a q, hd⟩
  · exact x.cinj
  · exact x.oW
  · exact x.oinj
  · intro i ds e
    obtain ⟨y, a, vs, h1, h2, h3, h4, h5, h6⟩ := x.own i ds e
    obtain ⟨w1, w2, _⟩ := x.oW i a h3
    exact ⟨y, a, vs, h1, h2, h3, h4, h5.at fun o e => nr.1 a o e fun hm => by rcases hin a hm with q | q; exact w2 q; exact w1 q, RepL.mono2 up _ _ h6⟩
  · intro i y d h1 h2 h3
    obtain ⟨v, a, b⟩ := x.loc i y d h1 h2 h3
    exact ⟨v, a, Rep.mono2 up _ _ b⟩
  · intro i y d h1 h2 h3
    obtain ⟨c, v, a, ⟨o, ho, hd⟩, e⟩ := x.cel i y d h1 h2 h3
    obtain ⟨w1, w2, _⟩ := x.cW y c a
    exact ⟨c, v, a, ⟨o, nr.1 c o ho fun hm => by rcases hin c hm with q | q; exact w2 q; exact w1 q, hd⟩, Rep.mono2 up _ _ e⟩

theorem SInv.rebind (x : SInv h₀ names env W m ow σ h) (hns : h'.Ns env.locals m') (same : ∀ b o, b ≠ env.locals → h.get? b = some o → h'.get? b = some o)
    (hm : ∀ (i : Nat) (y : PySem.Str) (t : Slot), names[i]? = some y → σ[i]? = some t → (∀ d, t = .val d → m' y = m y) ∧ (∀ d, t = .own d → m' y = m y)) : SInv h₀ names env W m' ow σ h' := by
  have up : ∀ b o, ¬ Wall W env ow b → h.get? b = some o → ¬ Wall W env ow b ∧ h'.get? b = some o := fun b o n e => ⟨n, same b o (fun q => n (.inr (.inl q))) e⟩
  constructor
  · exact fun b o e => same b o (fun q => by rw [q, x.lnew] at e; cases e) (x.base b o e)
  · exact fun b q => by
      obtain ⟨o, e⟩ := x.wok b q
      exact ⟨o, same b o (fun z => x.lW (z ▸ q)) e⟩
  · exact hns
  · exact x.lnew
  · exact x.lW
  · exact fun y c e => by
      obtain ⟨a, b, c', v, o, ho, hd⟩ := x.cW y c e
      exact ⟨a, b, c', v, o, same c o b ho, hd⟩
  · exact x.cinj
  · exact x.oW
  · exact x.oinj
  · intro i ds e
    obtain ⟨y, a, vs, h1, h2, h3, h4, h5, h6⟩ := x.own i ds e
    obtain ⟨w1, w2, _⟩ := x.oW i a h3
    exact ⟨y, a, vs, h1, h2, h3, ((hm i y _ h1 e).2 _ rfl).trans h4, h5.at fun o e => same a o w2 e, RepL.mono2 up _ _ h6⟩
  · intro i y d h1 h2 h3
    obtain ⟨v, a, b⟩ := x.loc i y d h1 h2 h3
    exact ⟨v, ((hm i y _ h1 h2).1 _ rfl).trans a, Rep.mono2 up _ _ b⟩
  · intro i y d h1 h2 h3
    obtain ⟨c, v, a, ⟨o, ho, hd⟩, e⟩ := x.cel i y d h1 h2 h3
    obtain ⟨w1, w2, _⟩ := x.cW y c a
    exact ⟨c, v, a, ⟨o, same c o w2 ho, hd⟩, Rep.mono2 up _ _ e⟩

noncomputable def onH (h : ExceptHandler) (f : Option Expr → Option PySem.Str → List Stmt → Bool) : Bool := match h with | .ExceptHandler t n b _ => f t n b
/-- y.append(v) -/
noncomputable def appSt (y : PySem.Str) (st : Stmt) (f : Expr → Bool) : Bool :=
  onSExpr st fun c _ => onCall c fun g es ks pos => ks.isEmpty && onOne es fun v => onAttr g fun o a apos => onName o fun z _ => z == y && a == "append" && apos.endLine == pos.line && f v
@[elab_as_elim] theorem appSt_elim {P : Stmt → Prop} {y : PySem.Str} {st : Stmt} {f : Expr → Bool} (h : appSt y st f = true) (k : ∀ py apos v pos p2, (apos.endLine == pos.line) = true → f v = true → P (.Expr (.Call (.Attribute (.Name y py) "append" apos) [v] [] pos) p2)) : P st := by
  refine onSExpr_elim h fun c p2 h => ?_
  refine onCall_elim h fun g es ks pos h => ?_
  refine nil_elim (andL h) ?_
  refine onOne_elim (andR h) fun v h => ?_
  refine onAttr_elim h fun o a apos h => ?_
  refine onName_elim h fun z py h => ?_
  rw [beq_iff_eq.mp (andL (andL (andL h))), beq_iff_eq.mp (andR (andL (andL h)))]
  exact k _ _ _ _ _ (andR (andL h)) (andR h)
noncomputable def callG (fn names : List PySem.Str) (sc : Scope) (f : Nat) (args : List Mine.X) (c : Expr) : Bool :=
  onCall c fun g es ks _ => ks.isEmpty && onName g fun g _ => fn[f]? == some g && !(g == debugS) && sc.names.lookup g == some .globalImplicit && chkEs names fn args sc none es
noncomputable def whyOf (nm : PySem.Str) (v : Expr) : Bool := onAttr v fun o m _ => onName o fun z _ => z == nm && m == "why"

/-- a try that appends a call's answer, or the words of its refusal -/
noncomputable def chkTry (names fn : List PySem.Str) (sc : Scope) (f : Nat) (args : List Mine.X) (i : Nat) (y nm : PySem.Str) (st : Stmt) : Bool :=
  onSTry st fun b hs l fb _ => l.isEmpty && (fb.isEmpty && onOne b fun s1 => onOne hs fun h => onH h fun t n b2 => t.any fun t => n.any fun z => onOne b2 fun s2 => onName t fun x _ =>
    appSt y s1 (callG fn names sc f args) && appSt y s2 (whyOf nm) && ownOk names sc i y && x == "LeftOut" && sc.names.lookup ("LeftOut" : PySem.Str) == some .globalImplicit && z == nm && !(nm == debugS) && sc.names.lookup nm == some .local && !(y == nm))
@[elab_as_elim] theorem callG_elim {P : Expr → Prop} {fn names : List PySem.Str} {sc : Scope} {f : Nat} {args : List Mine.X} {c : Expr} (h : callG fn names sc f args c = true)
    (k : ∀ g pg es cp, fn[f]? = some g → (g == debugS) = false → sc.names.lookup g = some .globalImplicit → chkEs names fn args sc none es = true → P (.Call (.Name g pg) es [] cp)) : P c := by
  refine onCall_elim h fun g es ks cp h => ?_
  refine nil_elim (andL h) ?_
  refine onName_elim (andR h) fun g pg h => ?_
  exact k _ _ _ _ (beq_iff_eq.mp (andL (andL (andL h)))) ((Bool.not_eq_true' _).mp (andR (andL (andL h)))) (beq_iff_eq.mp (andR (andL h))) (andR h)
@[elab_as_elim] theorem whyOf_elim {P : Expr → Prop} {nm : PySem.Str} {v : Expr} (h : whyOf nm v = true) (k : ∀ p q, P (.Attribute (.Name nm p) "why" q)) : P v := by
  refine onAttr_elim h fun o m pat h => ?_
  refine onName_elim h fun z pz h => ?_
  rw [beq_iff_eq.mp (andL h), beq_iff_eq.mp (andR h)]
  exact k _ _
@[elab_as_elim] theorem chkTry_elim {P : Stmt → Prop} {names fn : List PySem.Str} {sc : Scope} {f : Nat} {args : List Mine.X} {i : Nat} {y nm : PySem.Str} {st : Stmt} (h : chkTry names fn sc f args i y nm st = true)
    (k : ∀ py apos g pg es cp pos p2 px py2 apos2 pz2 pat pos2 p3 hp tp, ownOk names sc i y = true → (apos.endLine == pos.line) = true → (apos2.endLine == pos2.line) = true → fn[f]? = some g → (g == debugS) = false → sc.names.lookup g = some .globalImplicit → chkEs names fn args sc none es = true →
      sc.names.lookup ("LeftOut" : PySem.Str) = some .globalImplicit → (nm == debugS) = false → sc.names.lookup nm = some .local → y ≠ nm →
      P (.Try [.Expr (.Call (.Attribute (.Name y py) "append" apos) [.Call (.Name g pg) es [] cp] [] pos) p2] [.ExceptHandler (some (.Name "LeftOut" px)) (some nm) [.Expr (.Call (.Attribute (.Name y py2) "append" apos2) [.Attribute (.Name nm pz2) "why" pat] [] pos2) p3] hp] [] [] tp)) : P st := by
  refine onSTry_elim h fun b hs l fb tp h => ?_
  refine nil_elim (andL h) (nil_elim (andL (andR h)) ?_)
  refine onOne_elim (andR (andR h)) fun s1 h => ?_
  refine onOne_elim h fun hh h => ?_
  obtain ⟨t, n, b2, hp⟩ := hh
  refine any_elim (o := t) h fun t h => ?_
  refine any_elim (o := n) h fun z h => ?_
  refine onOne_elim (l := b2) h fun s2 h => ?_
  refine onName_elim (e := t) h fun x px h => ?_
  have hx : x = "LeftOut" := beq_iff_eq.mp (andR (andL (andL (andL (andL (andL h))))))
  have hz : z = nm := beq_iff_eq.mp (andR (andL (andL (andL h))))
  rw [hx, hz]
  have h1 := andL (andL (andL (andL (andL (andL (andL (andL h)))))))
  have h2 := andR (andL (andL (andL (andL (andL (andL (andL h)))))))
  have k5 := beq_iff_eq.mp (andR (andL (andL (andL (andL h)))))
  refine appSt_elim h1 fun py apos v pos p2 a1 a2 => ?_
  refine callG_elim a2 fun g pg es cp c1 c2 c3 c4 => ?_
  refine appSt_elim h2 fun py2 apos2 v2 pos2 p3 a3 a4 => ?_
  refine whyOf_elim a4 fun pz2 pat => ?_
  exact k _ _ _ _ _ _ _ _ _ _ _ _ _ _ _ _ _ (andR (andL (andL (andL (andL (andL (andL h))))))) a1 a3 c1 c2 c3 c4 k5 ((Bool.not_eq_true' _).mp (andR (andL (andL h)))) (beq_iff_eq.mp (andR (andL h))) (fun q => by
    have := (Bool.not_eq_true' _).mp (andR h)
    rw [q, beq_self_eq_true] at this
    cases this)
end
end Mine

namespace Mine
open PySem PySem.W PySem.Calls PyProof.Rows PySem.SeqAt PySem.Builtin.ObjectAttr

theorem funFrames_on {base h h' : Heap} : ∀ {l : List Env}, h.FunFrames base l → (∀ b ∈ l.filterMap (·.frame), ∀ o, h.get? b = some o → h'.get? b = some o) → h'.FunFrames base l
  | [], _, _ => trivial
  | env :: l, ⟨hk, ⟨L, o, hf, hn, ho, hd⟩, hr⟩, k =>
    ⟨hk, ⟨L, o, hf, hn, k L (by rw [List.filterMap_cons, hf]; exact List.mem_cons_self) o ho, hd⟩, funFrames_on hr fun b hb => k b (by rw [List.filterMap_cons, hf]; exact List.mem_cons_of_mem _ hb)⟩

section
variable {prog : Program} {w : World} {A : Around} {E : Value → Shared → Prop} {h₀ : Heap} {mg mb : PySem.Str → Option Value} {fa : Nat → Addr} {names fn : List PySem.Str} {F : FTab} {k wf n : Nat}
variable {env : Env} {W : AddrSet} {m m' : PySem.Str → Option Value} {ow : Nat → Option Addr} {σ : List Slot} {s : Shared} {h h' : Heap}

theorem handle51 {e : Addr} {nm : PySem.Str} {b₀ : Stmt} {suite : List Stmt} {np pos : Pos} {rest : List ExceptHandler} {Q : Flow → Shared → Prop} (G : Gl h₀ mg mb fn fa) (X : (KH w.params).In h₀) (he : EnvOk env)
    (hb : ∀ b o, h₀.get? b = some o → s.heap.get? b = some o) (hk : env.scope.names.lookup ("LeftOut" : PySem.Str) = some .globalImplicit) {o : Obj} (hx : s.heap.get? e = some o) (hc : o.cls = .ref 51)
    (h : wpAny (model prog w) (A.mark (some (.ref e))) (setFlight (.ref e) none) (fun _ s₁ => wpAny (model prog w) (A.mark (some (.ref e))) (storeName env nm (.ref e)) (fun _ s₂ =>
      wpAny (model prog w) (A.mark (some (.ref e))) (execs (b₀ :: suite) env) (fun f s₃ => wpAny (model prog w) A (do bindName env nm .none; unbindBehindTheSuite env nm pos) (fun _ s₄ => Q f s₄) (fun _ _ => False) s₃) (fun _ _ => False) s₂) (fun _ _ => False) s₁) (fun _ _ => False) s) :
    wpAny (model prog w) A (handleBy (.ref e) env (.ExceptHandler (some (.Name "LeftOut" np)) (some nm) (b₀ :: suite) pos :: rest)) Q (fun _ _ => False) s := by
  have hm : mg "LeftOut" = some (.ref 51) := mg_of X G.g (by kernel_rfl)
  refine wpAny_handleBy_cons (codeAny_handlers_test (Name_function_global he.kind hk (loadGlobal_global (mg := mg) (he.glob ▸ G.g.keeps hb) hm ?_) (by decide))) (by intro q; cases q)
  obtain ⟨hp, g, d, tk, os⟩ := s
  refine wpAny_excMatches_sub_self (hC51 (X.keeps hb)) hx hc (by decide +kernel) (codeAny_handlers_suite_as ?_)
  exact wpAny_mono h (fun _ s₁ h₁ => wpAny_mono h₁ (fun _ s₂ h₂ => wpAny_mono h₂ (fun f s₃ h₃ => wpAny_mono h₃ (fun _ _ q => q) fun _ _ q => q.elim) fun _ _ q => q.elim) fun _ _ q => q.elim) fun _ _ q => q.elim

theorem try_ok (hn : names.Nodup) (he : EnvOk env) (G : Gl h₀ mg mb fn fa) (X : (KH w.params).In h₀) (hA : Room A k) (hF : ∀ f ds d, F f ds = some d → CallOk prog w A h₀ (fa f) ds d)
    {f i j : Nat} {args : List Mine.X} {y nm : PySem.Str} {st : Stmt} {l : List Nat} {ds es : List D} {outer : List Env} {ref0 : Heap} {Q : Flow → Shared → Prop}
    (hc : chkTry names fn env.scope f args i y nm st = true) (hj : names[j]? = some nm) (hsj : σ[j]? = some .no) (hR : CallRaise prog w A h₀ (fa f) ds l) (hargs : seqO (evEs F σ none args) = some ds)
    (hfr : A.frames = some (env :: outer)) (hff : s.heap.FunFrames h₀ (env :: outer)) (hfe : env.frame = some env.locals) (hoW : ∀ b ∈ outer.filterMap (·.frame), W b)
    (x : SInv h₀ names env W m ow σ s.heap) (hs : σ[i]? = some (.own es)) (hsz : es.length + 1 ≤ big)
    (r1 : ref0.get? env.locals = none) (r2 : ∀ (i : Nat) (a : Addr), ow i = some a → ref0.get? a = none) (nr : Near (outer.filterMap (·.frame)) ref0 s.heap)
    (hq : ∀ h' tk m', SInv h₀ names env W m' ow (σ.set i (.own (es ++ [.str l]))) h' → h'.FunFrames h₀ (env :: outer) → Near (outer.filterMap (·.frame)) ref0 h' → Q .next { s with heap := h', toks := tk }) :
    wpAny (model prog w) A (exec st env) Q (fun _ _ => False) s := by
  refine chkTry_elim hc fun py1 apos g pg es' cp pos p2 px py2 apos2 pz2 pat pos2 p3 hp tp c1 c6 c7 c8 c9 c10 c11 c13 c17 c18 hyn => ?_
  clear hc
  obtain ⟨hy, hd, hl⟩ := ownOk_inv c1
  have gs := evs_all (σ := σ) G hA hF args es' env none he c11
  obtain ⟨hmg, o_f, fd_f, hof, hdf⟩ := G.fns f g c8
  obtain ⟨y', a, vs, g1, g2, g3, g4, g5, g6⟩ := x.own i es hs
  rw [hy] at g1; cases g1
  have FSo : ∀ b ∈ outer.filterMap (·.frame), ∀ o, s.heap.get? b = some o → b ≠ env.locals ∧ b ≠ a := fun b hb o e => ⟨fun q => x.lW (q ▸ hoW b hb), fun q => (x.oW i a g3).1 (q ▸ hoW b hb)⟩
  have hinW : ∀ b ∈ (env :: outer).filterMap (·.frame), b = env.locals ∨ W b := fun b hb => by
    rw [List.filterMap_cons, hfe] at hb
    rcases List.mem_cons.mp hb with q | q
    · exact .inl q
    · exact .inr (hoW b q)
  have h0F : ∀ b ∈ (env :: outer).filterMap (·.frame), h₀.get? b = none := fun b hb => (hff.mem hb).1
  refine wpAny_Try_except ?_
  refine wpAny_execs_cons (wpAny_Expr ?_ (interactive_no he) rfl)
  refine wpAny_Call_method (T := "list") (id := "list.append") rfl rfl (by simp [c6]) PySem.F.plainAttrs_list PySem.F.slot_list_append PySem.F.type_list_append ?_
  refine wpAny_Name (wpAny_loadName_local he.kind hl x.ns g4 ?_) hd
  obtain ⟨n0, hob⟩ := id g5
  refine ⟨g5.isList.typeIs, (fun a' e => by cases e; exact ⟨_, hob, rfl⟩), ?_⟩
  refine callWith_builtin rfl (Calls.evalArgs_plain (Calls.spliced_cons ?_))
  rw [Call_name]
  refine wpAny_bind (Name_function_global he.kind c10 (loadGlobal_global (mg := mg) (he.glob ▸ G.g.keeps x.base) hmg ?_) c9)
  refine callWith_function (o := o_f) (fd := fd_f) (wpAny_mono (evalArgs_ok gs hargs x.einv (Q := fun ar s₁ => ∃ vs, ar = ⟨vs, []⟩ ∧ Keeps s s₁ ∧ RepL (Wall W env ow) s₁.heap ds vs) fun vs s₁ k₁ r₁ => ⟨vs, rfl, k₁, r₁⟩) (fun ar s₁ q => ?_) fun _ _ q => q.elim)
  obtain ⟨us, rfl, k₁, r₁⟩ := q
  have x₁ := x.keeps (Keeps.get k₁)
  refine ⟨⟨x₁.base _ _ hof, hdf⟩, ?_⟩
  obtain ⟨h1, t1, rfl, kk₁⟩ := k₁
  dsimp only at x₁ r₁ ⊢
  have hff1 : h1.FunFrames h₀ (env :: outer) := hff.of_keeps fun b o e _ => ⟨o, kk₁ b o e, rfl⟩
  refine hR (Wall W env ow) _ us _ _ (env :: outer) x₁.base x₁.wall r₁ hfr hff1 fun h2 tk2 e t ex nr2 ff2 => ?_
  dsimp only at ex nr2 ⊢
  have hin : ∀ b ∈ (env :: outer).filterMap (·.frame), ∃ o, h1.get? b = some o := fun b hb => let ⟨_, o, q, _⟩ := hff1.mem hb; ⟨o, q⟩
  refine note_on (s := ⟨h2, s.gens, s.drawn, tk2, s.os⟩) hfr ff2 hfe hin ex nr2 fun h3 ex3 nr3 ff3 => ?_
  refine flight_on (s := ⟨h3, s.gens, s.drawn, tk2, s.os⟩) ff3 ex3 nr3 fun h4 ex4 nr4 ff4 => ?_
  have x4 := x₁.near nr4 hinW h0F
  obtain ⟨dx, vs4, T4, oT4, ts4, he4, _⟩ := id ex4.there
  refine handle51 (s := ⟨h4, s.gens, s.drawn, tk2, s.os⟩) G X he x4.base c13 he4 rfl ?_
  refine flight_on (s := ⟨h4, s.gens, s.drawn, tk2, s.os⟩) ff4 ex4 nr4 fun h5 ex5 nr5 ff5 => ?_
  have x5 := x₁.near nr5 hinW h0F
  obtain ⟨hen, dx5, vs5, T5, oT5, ts5, he5, q1, q2, q3, q4, q5, q6, q7, q8, q9, hns5⟩ := id ex5
  refine wpAny_storeName_local c18 x5.ns (fun h6 ns6 sb6 => ?_) (by rw [he.kind]; rfl)
  dsimp only at ns6 sb6 ⊢
  have ne_loc : ∀ b, h1.get? b = none → b ≠ env.locals := fun b hb q => by
    obtain ⟨o, _, _, ho, _⟩ := x₁.ns
    rw [← q, hb] at ho; cases ho
  have hji : j ≠ i := fun q => by subst q; rw [hy] at hj; cases hj; exact hyn rfl
  have notNm : ∀ τ : List Slot, τ[j]? = some .no → ∀ (i' : Nat) (y'' : PySem.Str) (t : Slot), names[i']? = some y'' → τ[i']? = some t → (∀ d, t = .val d → y'' ≠ nm) ∧ (∀ d, t = .own d → y'' ≠ nm) := fun τ hτ i' y'' t h1' h2' => by
    have key : y'' = nm → t = .no := fun q => by
      subst q
      have := (List.getElem?_inj (List.getElem?_eq_some_iff.mp h1').1 hn).mp (h1'.trans hj.symm)
      subst this
      rw [hτ] at h2'; cases h2'; rfl
    exact ⟨fun d e q => by (rw [key q] at e; cases e), fun d e q => by (rw [key q] at e; cases e)⟩
  have hp0 : (env.scope.kind == .class || (env.scope.kind == .module && env.locals != env.globals)) = false := by rw [he.kind]; rfl
  have x6 : SInv h₀ names env W (fun y => if y = nm then some (.ref e) else m y) ow σ h6 := x5.rebind ns6 (fun b o n q => sb6.extBut b o n q) fun i' y'' t h1' h2' =>
    ⟨fun d q => if_neg ((notNm σ hsj i' y'' t h1' h2').1 d q), fun d q => if_neg ((notNm σ hsj i' y'' t h1' h2').2 d q)⟩
  have he6 := sb6.extBut _ _ (ne_loc e hen) he5
  have hns6 : h6.Ns dx5 (fun y => if y = "why" then some (.str ⟨l.toArray⟩ t) else none) := by
    obtain ⟨o, ee, ep, ho, r⟩ := hns5
    exact ⟨o, ee, ep, sb6.extBut _ _ (ne_loc dx5 q6) ho, r⟩
  obtain ⟨y6, a6, vs6, k1, k2, k3, k4, k5, k6⟩ := x6.own i es hs
  rw [hy] at k1; cases k1
  rw [g3] at k3; cases k3
  refine wpAny_execs_cons (wpAny_Expr ?_ (interactive_no he) rfl)
  refine wpAny_Call_method (T := "list") (id := "list.append") rfl rfl (by simp [c7]) PySem.F.plainAttrs_list PySem.F.slot_list_append PySem.F.type_list_append ?_
  refine wpAny_Name (wpAny_loadName_local he.kind hl x6.ns k4 ?_) hd
  obtain ⟨n6, hob6⟩ := id k5
  refine ⟨k5.isList.typeIs, (fun a' e => by cases e; exact ⟨_, hob6, rfl⟩), ?_⟩
  refine callWith_builtin rfl (Calls.evalArgs_plain (Calls.spliced_cons ?_))
  refine Attribute_name (wpAny_Name (wpAny_loadName_local he.kind c18 x6.ns (if_pos rfl) ?_) c17)
  refine getattr51 (X.keeps x6.base) he6 hns6 rfl (Calls.spliced_nil ?_)
  refine wpAny_list_append_plain k5 (fun h7 hp7 sb7 => ?_) (by rw [List.size_toArray, k6.len, ← big_line]; omega)
  dsimp only at hp7 sb7 ⊢
  rw [toList_push] at hp7
  have up7 : ∀ b o', b ≠ a → h6.get? b = some o' → h7.get? b = some o' := fun b o' n e => sb7.extBut b o' n e
  have x7 := grow_own x6 hs g3 k6 (RepL.cons (d := .str l) (rep_str l t) RepL.nil) hp7 up7
  refine wpAny_execs_nil ?_
  refine wpAny_nameGoes_keeps c18 x7.ns hp0 fun h8 v ns8 sb8 => ?_
  dsimp only at ns8 sb8 ⊢
  have hτ : (σ.set i (.own (es ++ [.str l])))[j]? = some .no := by rw [List.getElem?_set_ne (Ne.symm hji)]; exact hsj
  have x8 := x7.rebind ns8 (fun b o n q => sb8.extBut b o n q) fun i' y'' t' h1' h2' => ⟨fun d q => if_neg ((notNm _ hτ i' y'' t' h1' h2').1 d q), fun d q => if_neg ((notNm _ hτ i' y'' t' h1' h2').2 d q)⟩
  have up58 : ∀ b o, b ≠ env.locals → b ≠ a → h5.get? b = some o → h8.get? b = some o := fun b o n1 n2 q => sb8.extBut _ _ n1 (up7 _ _ n2 (sb6.extBut _ _ n1 q))
  have ref1 : ∀ b o, ref0.get? b = some o → b ≠ env.locals ∧ b ≠ a := fun b o q => ⟨fun z => by (rw [z, r1] at q; cases q), fun z => by (rw [z, r2 i a g3] at q; cases q)⟩
  refine hq h8 _ _ x8 ?_ ⟨fun b o q nf => ?_, fun b o q => ?_⟩
  · refine .cons (by rw [he.kind]; decide) hfe ns8 (h0F _ (by rw [List.filterMap_cons, hfe]; exact List.mem_cons_self)) (funFrames_on ff5.2.2 fun b hb o q => ?_)
    exact up58 b o (fun z => x.lW (z ▸ hoW b hb)) (fun z => (x.oW i a g3).1 (z ▸ hoW b hb)) q
  · obtain ⟨n1, n2⟩ := ref1 b o q
    refine up58 b o n1 n2 (nr5.1 b o (kk₁ b o (nr.1 b o q nf)) fun hm => ?_)
    rw [List.filterMap_cons, hfe] at hm
    rcases List.mem_cons.mp hm with z | hm
    · exact n1 z
    · exact nf hm
  · obtain ⟨n1, n2⟩ := ref1 b o q
    obtain ⟨sl, hs1⟩ := nr.2 b o q
    obtain ⟨sl2, hs2⟩ := nr5.2 b _ (kk₁ b _ hs1)
    exact ⟨sl2, up58 b _ n1 n2 hs2⟩
end
end Mine

namespace Mine
open PySem PySem.W PySem.Calls PyProof.Rows PySem.SeqAt PySem.Builtin.ObjectAttr

theorem Room.of_le {A : Around} {k j : Nat} (h : Room A k) (hj : j ≤ k) : Room A j := ⟨h.hh, by have := h.depth; omega, by have := h.units; omega⟩

noncomputable def names_ref : List PySem.Str := ["octets", "text", "name", "told", "fault"]
noncomputable def chkRef (fn : List PySem.Str) (d : DefRec) : Bool := chkHead names_ref 3 d && (Nat.beq d.body.length 4 &&
  ((d.body[0]?).any (chkX names_ref fn d.scope (.newl 3)) && (d.body[1]?).any (chkTry names_ref fn d.scope 6 [.prim .bytes [.var 0], .var 2] 3 "told" "fault") && (d.body[2]?).any (chkTry names_ref fn d.scope 10 [.var 1, .var 2] 3 "told" "fault") && (d.body[3]?).any (chkX names_ref fn d.scope (.ret (.var 3)))))
theorem four {α : Type} : ∀ {l : List α} {f g h k : α → Bool}, (Nat.beq l.length 4 && ((l[0]?).any f && (l[1]?).any g && (l[2]?).any h && (l[3]?).any k)) = true → ∃ a b c d, l = [a, b, c, d] ∧ f a = true ∧ g b = true ∧ h c = true ∧ k d = true
  | [a, b, c, d], f, g, h, k, e => by
    have e2 : (f a && g b && h c && k d) = true := e
    simp only [Bool.and_eq_true] at e2
    exact ⟨a, b, c, d, rfl, e2.1.1.1, e2.1.1.2, e2.1.2, e2.2⟩
  | [], _, _, _, _, e => falseNot e
  | [_], _, _, _, _, e => falseNot e
  | [_, _], _, _, _, _, e => falseNot e
  | [_, _, _], _, _, _, _, e => falseNot e
  | _ :: _ :: _ :: _ :: _ :: _, _, _, _, _, e => falseNot e
theorem chk_ref : ((recsOf V).any fun d => d.name == "_law_refusals" && chkRef fnNames d) = true := by decide +kernel

section
variable {prog : Program} {w : World} {A : Around} {h₀ : Heap} {mg mb : PySem.Str → Option Value} {loose : List PySem.Str} {mean : ExcName → Option Value}

noncomputable def RefOk (prog : Program) (w : World) (A : Around) (h₀ : Heap) (f : Addr) (ds : List D) (d : D) : Prop :=
  ∀ (W : AddrSet) (s : Shared) (vs : List Value) (Q : Value → Shared → Prop) (outer : List Env), (∀ b o, h₀.get? b = some o → s.heap.get? b = some o) → WOk W s.heap → RepL W s.heap ds vs → A.frames = some outer → s.heap.FunFrames h₀ outer →
    (∀ b ∈ outer.filterMap (·.frame), W b) → (∀ v h' tk, Near (outer.filterMap (·.frame)) s.heap h' → Rep W h' d v → Q v { s with heap := h', toks := tk }) → wpAny (model prog w) A (call (.ref f) vs) Q (fun _ _ => False) s

theorem ref_ok (T : Top V loose mean mg mb h₀) (hp : NoPrim mg) (X : (KH w.params).In h₀) (hA : Room A 12) {octs : List Int} {text nm : List Nat} (hn : nm ∉ knownNames) (hb : nm.length ≤ 1000)
    (ho : ∀ x ∈ octs, 0 ≤ x ∧ x < 256) (hl : octs.length ≤ big) : ∃ fr, mg "_law_refusals" = some (.ref fr) ∧ (∃ o fd, h₀.get? fr = some o ∧ o.data = .func fd) ∧
      RefOk prog w A h₀ fr [.lst (octs.map .int), .str text, .str nm] (.lst [.str (noDec ++ nm), .str (noEnc ++ nm)]) := by
  obtain ⟨dr, hd, hx⟩ := List.any_eq_true.mp chk_ref
  unfold chkRef at hx
  obtain ⟨hname, hx⟩ := Bool.and_eq_true_iff.mp hx
  obtain ⟨hh, hx⟩ := Bool.and_eq_true_iff.mp hx
  obtain ⟨s1, s2, s3, s4, hbody, c1, c2, c3, c4⟩ := four hx
  rw [beq_iff_eq] at hname
  obtain ⟨a, o, pm, code, doc, h1, h2, h3, h4⟩ := T.fn dr hd
  have G := gl_of T chk_view hp
  refine ⟨a, by rw [← hname]; exact h1, ⟨o, _, h2, h3⟩, ?_⟩
  intro W s vs Q outer hbase hw hr hfr hff hoW hq
  refine wpAny_call (fn_enter hh G (by have := hA.depth; omega) h2 h3 h4 rfl hbase hw hr fun env m h₁ t₁ hE eS eF hL hcs keep hS => ?_)
  rw [hbody]
  have hnd : names_ref.Nodup := by decide +kernel
  have hA' : Room (A.deeper env) 11 := hA.deeper env
  have hF := all_ok (wf := 5000) (w := w) (prog := prog) T chk_view hp 11 (A.deeper env) (by omega) hA'
  have hfr' : (A.deeper env).frames = some (env :: outer) := Around.frames_deeper hfr
  have hbl : h₀.get? env.locals = none := by
    cases q : h₀.get? env.locals with
    | none => rfl
    | some o => have := hbase _ _ q; rw [hL] at this; cases this
  have hff1 : h₁.FunFrames h₀ (env :: outer) := .cons (by rw [hE.kind]; decide) eF hS.ns hbl (hff.of_keeps fun b o e _ => ⟨o, keep b o e, rfl⟩)
  rw [← eS] at c1 c2 c3 c4
  have b0 : big = 16777216 := rfl
  have hst : start names_ref.length 3 [.lst (octs.map .int), .str text, .str nm] = [.val (.lst (octs.map .int)), .val (.str text), .val (.str nm), .no, .no] := rfl
  rw [hst] at hS
  refine wpAny_mono (Q := fun f s' => ∃ v h' tk, f = .ret v ∧ s' = { s with heap := h', toks := tk } ∧ Near (outer.filterMap (·.frame)) s.heap h' ∧ Rep W h' (.lst [.str (noDec ++ nm), .str (noEnc ++ nm)]) v) (E := fun _ _ => False) ?_ (fun f s' q => ?_) fun _ _ q => q.elim
  · -- told = []
    refine wpAny_execs_cons (wpAny_mono (exX_ok (wf := 5000) hnd hE G hA' hF (.newl 3) s1 c1 W m _ _ { s with heap := h₁, toks := t₁ } (.next [.val (.lst (octs.map .int)), .val (.str text), .val (.str nm), .own [], .no]) _ (by simp [exX]) hS fun f s' p => p) (fun f s₂ p => ?_) fun _ _ q => q.elim)
    obtain ⟨rfl, m2, ow2, st2, ws2, x2⟩ := p
    have notOwn : ∀ b o, s.heap.get? b = some o → ¬ Own env (fun _ => none) b := fun b o e q => by
      rcases q with q | ⟨y, q⟩ | ⟨i, q⟩
      · rw [q, hL] at e; cases e
      · rw [hcs y b q] at e; cases e
      · cases q
    have kp2 : ∀ b o, s.heap.get? b = some o → s₂.heap.get? b = some o := fun b o e => st2.kept b o (keep b o e) (notOwn b o e)
    have r2 : ∀ (i : Nat) (a : Addr), ow2 i = some a → s.heap.get? a = none := fun i a e => by
      rcases ws2 i a e with ⟨j, q⟩ | q
      · cases q
      · cases z : s.heap.get? a with
        | none => rfl
        | some o => have := keep _ _ z; rw [q] at this; cases this
    obtain ⟨h2', t2', rfl, _, _⟩ := st2
    dsimp only at kp2 x2 ⊢
    have hff2 : h2'.FunFrames h₀ (env :: outer) := .cons (by rw [hE.kind]; decide) eF x2.ns hbl (hff.of_keeps fun b o e _ => ⟨o, kp2 b o e, rfl⟩)
    have hob : (octs.map D.int).length ≤ big := by rw [List.length_map]; exact hl
    have hargs1 : seqO (evEs (Fn 5000 11) [.val (.lst (octs.map .int)), .val (.str text), .val (.str nm), .own [], .no] none [.prim .bytes [.var 0], .var 2]) = some [.bytes octs, .str nm] := by
      refine e_args (e_prim (e_args (e_var rfl) e_args0) ?_) (e_args (e_var rfl) e_args0)
      simp only [evPrim]
      rw [if_pos hob, intsOf_map]
      simp only
      rw [if_pos]
      rw [List.all_eq_true]
      intro x hx
      simp [ho x hx]
    refine wpAny_execs_cons (try_ok (s := { s with heap := h2', toks := t2' }) hnd hE G X hA' hF (f := 6) (i := 3) (j := 4) c2 rfl rfl (dec_raises T hp X (Room.of_le hA' (by omega)) hn hb) hargs1 hfr' hff2 eF hoW x2 rfl (by decide) hL r2 (Near.of_keeps kp2) fun h3 tk3 m3 x3 ff3 nr3 => ?_)
    have hargs2 : seqO (evEs (Fn 5000 11) [.val (.lst (octs.map .int)), .val (.str text), .val (.str nm), .own [.str (noDec ++ nm)], .no] none [.var 1, .var 2]) = some [.str text, .str nm] :=
      e_args (e_var rfl) (e_args (e_var rfl) e_args0)
    refine wpAny_execs_cons (try_ok (s := { s with heap := h3, toks := tk3 }) hnd hE G X hA' hF (f := 10) (i := 3) (j := 4) c3 rfl rfl (enc_raises T hp X hA' hn hb) hargs2 hfr' ff3 eF hoW x3 rfl (by simp [b0]) hL r2 nr3 fun h4 tk4 m4 x4 ff4 nr4 => ?_)
    have x5 := freeze_own (i := 3) (ds := [.str (noDec ++ nm), .str (noEnc ++ nm)]) hnd x4 rfl
    refine wpAny_execs_cons (wpAny_mono (exX_ok (wf := 5000) hnd hE G hA' hF (.ret (.var 3)) s4 c4 W _ _ _ { s with heap := h4, toks := tk4 } (.ret (.lst [.str (noDec ++ nm), .str (noEnc ++ nm)])) _ (s_ret (e_var rfl)) x5 fun f s' p => p) (fun f s₅ p => ?_) fun _ _ q => q.elim)
    obtain ⟨v, rfl, st5, r5⟩ := p
    have k5 : ∀ b o, s.heap.get? b = some o → ¬ Own env (dropOw ow2 3) b := fun b o e q => by
      rcases q with q | ⟨y, q⟩ | ⟨i, q⟩
      · rw [q, hL] at e; cases e
      · rw [hcs y b q] at e; cases e
      · rw [r2 i b (dropOw_sub q).2] at e; cases e
    have kk := st5.kept
    obtain ⟨h5, t5, rfl, _, _⟩ := st5
    dsimp only at kk r5 ⊢
    refine ⟨v, h5, t5, rfl, rfl, ⟨fun b o e nf => kk b o (nr4.1 b o e nf) (k5 b o e), fun b o e => ?_⟩, r5⟩
    obtain ⟨sl, hs⟩ := nr4.2 b o e
    exact ⟨sl, kk b _ hs (k5 b o e)⟩
  · obtain ⟨v, h', tk, rfl, rfl, nr, r⟩ := q
    exact hq v h' tk nr r
end
end Mine

namespace Mine
open PySem PySem.W PySem.Calls PyProof.Rows PySem.SeqAt PySem.Builtin.ObjectAttr

noncomputable def argNm (l : List Nat) : Mine.X := .bin .add (.str l) (.var 22)
noncomputable def endR : Mine.X := .lst [argNm noDec, argNm noEnc]
noncomputable def chkEnd (names fn : List PySem.Str) (sc : Scope) (st : Stmt) : Bool := onSRet st fun v _ => v.any fun v => onCmp v fun c os rs _ => decide (os = [.Eq]) && onOne rs fun r => onCall c fun g es ks _ => ks.isEmpty && onName g fun g _ =>
  g == "_law_refusals" && sc.names.lookup g == some .globalImplicit && chkEs names fn [.var 2, .var 13, .var 22] sc none es && chkE names fn endR sc none r && !behindInMarks .Eq r
noncomputable def chkLaw (fn : List PySem.Str) (d : DefRec) : Bool := chkHead names_law 1 d && chkS names_law fn d.scope P_law d.body.dropLast && d.body.getLast?.any (chkEnd names_law fn d.scope)
theorem chk_law : ((recsOf V).any fun d => d.name == "law" && chkLaw fnNames d) = true := by decide +kernel

section
variable {prog : Program} {w : World} {A : Around} {E : Value → Shared → Prop} {h₀ : Heap} {mg mb : PySem.Str → Option Value} {loose : List PySem.Str} {mean : ExcName → Option Value} {env : Env} {s : Shared}

theorem execs_app_eq {b : List Stmt} : ∀ (a : List Stmt), execs (a ++ b) env = (execs a env >>= fun f => match f with | .next => execs b env | f => pure f)
  | [] => by
    have e : execs [] env = pure .next := rfl
    rw [e, pure_bind]; rfl
  | st :: a => by
    rw [List.cons_append, execs_cons, execs_cons, bind_assoc]
    congr 1
    funext f
    cases f <;> simp [execs_app_eq a]
theorem execs_app {b : List Stmt} {Q : Flow → Shared → Prop} {a : List Stmt} (h : wpAny (model prog w) A (execs a env) (fun f s' => match f with | .next => wpAny (model prog w) A (execs b env) Q E s' | f => Q f s') E s) : wpAny (model prog w) A (execs (a ++ b) env) Q E s := by
  rw [execs_app_eq]
  refine wpAny_bind (wpAny_mono h (fun f s' q => ?_) fun _ _ q => q)
  cases f <;> first | exact q | exact wpAny_pure q

/-- the state behind the law's statements but the last -/
structure AtEnd (σ : List Slot) (octs : List Int) (text nm : List Nat) : Prop where
  o : σ[2]? = some (.val (.lst (octs.map .int)))
  t : σ[13]? = some (.val (.str text))
  n : σ[22]? = some (.val (.str nm))
  byte : ∀ x ∈ octs, 0 ≤ x ∧ x < 256
  olen : octs.length ≤ big
  nlen : nm.length ≤ 1000
  left : nm ∉ knownNames
  ncp : nm.all (· < 1114112) = true

theorem law_end (T : Top V loose mean mg mb h₀) (hp : NoPrim mg) (X : (KH w.params).In h₀) (he : EnvOk env) (hA : Room A 21) (hfr : A.frames = some [env]) (hfe : env.frame = some env.locals)
    {W : AddrSet} {m : PySem.Str → Option Value} {ow : Nat → Option Addr} {σ : List Slot} {octs : List Int} {text nm : List Nat} {st : Stmt} (hc : chkEnd names_law fnNames env.scope st = true) (x : SInv h₀ names_law env W m ow σ s.heap) (a : AtEnd σ octs text nm)
    {Q : Flow → Shared → Prop} (hq : ∀ h' tk, Near [env.locals] s.heap h' → Q (.ret (.bool true)) { s with heap := h', toks := tk }) : wpAny (model prog w) A (exec st env) Q (fun _ _ => False) s := by
  have G := gl_of T chk_view hp
  have hF := all_ok (wf := 5000) (w := w) (prog := prog) T chk_view hp 21 A (by omega) hA
  obtain ⟨v, rp, rfl, k1⟩ := onSRet_inv hc
  obtain ⟨v, rfl, k2⟩ := any_some k1
  obtain ⟨c, os, rs, pos, rfl, k3⟩ := onCmp_inv k2
  obtain ⟨k4, k5⟩ := Bool.and_eq_true_iff.mp k3
  obtain rfl := of_decide_eq_true k4
  obtain ⟨r, rfl, k6⟩ := onOne_inv k5
  obtain ⟨g, es, ks, cp, rfl, k7⟩ := onCall_inv k6
  obtain ⟨k8, k9⟩ := Bool.and_eq_true_iff.mp k7
  obtain rfl := List.isEmpty_iff.mp k8
  obtain ⟨g, pg, rfl, k10⟩ := onName_inv k9
  clear hc k1 k2 k3 k4 k5 k6 k7 k8 k9
  simp only [Bool.and_eq_true, beq_iff_eq, Bool.not_eq_true'] at k10
  obtain ⟨⟨⟨⟨rfl, c2⟩, c3⟩, c4⟩, c5⟩ := k10
  obtain ⟨fr, hmg, ⟨o_f, fd_f, hof, hdf⟩, hR⟩ := ref_ok (prog := prog) (w := w) (A := A) T hp X (Room.of_le hA (by omega)) (text := text) a.left a.nlen a.byte a.olen
  have gs := evs_all (σ := σ) G hA hF [.var 2, .var 13, .var 22] es env none he c3
  have hargs : seqO (evEs (Fn 5000 21) σ none [.var 2, .var 13, .var 22]) = some [.lst (octs.map .int), .str text, .str nm] := e_args (e_var a.o) (e_args (e_var a.t) (e_args (e_var a.n) e_args0))
  have hff : s.heap.FunFrames h₀ [env] := .cons (by rw [he.kind]; decide) hfe x.ns x.lnew trivial
  have hFS : ([env] : List Env).filterMap (·.frame) = [env.locals] := by simp [hfe]
  refine wpAny_Return_some (wpAny_Compare1 ?_ c5)
  rw [Call_name]
  refine wpAny_bind (Name_function_global he.kind c2 (loadGlobal_global (mg := mg) (he.glob ▸ G.g.keeps x.base) hmg ?_) (by decide))
  refine callWith_function (o := o_f) (fd := fd_f) (evalArgs_ok gs hargs x.einv fun us s₁ k₁ r₁ => ?_)
  have x₁ := x.keeps (Keeps.get k₁)
  refine ⟨⟨x₁.base _ _ hof, hdf⟩, ?_⟩
  obtain ⟨h1, t1, rfl, kk₁⟩ := k₁
  dsimp only at x₁ r₁ ⊢
  have hff1 : h1.FunFrames h₀ [env] := hff.of_keeps fun b o e _ => ⟨o, kk₁ b o e, rfl⟩
  refine hR (Wall W env ow) _ us _ [env] x₁.base x₁.wall r₁ hfr hff1 (fun b hb => ?_) fun v h2 tk2 nr2 r2 => ?_
  · rw [hFS, List.mem_singleton] at hb
    exact .inr (.inl hb)
  rw [hFS] at nr2
  dsimp only at nr2 r2 ⊢
  -- the right side
  have ne_loc : ∀ b o, h₀.get? b = some o → b ≠ env.locals := fun b o e q => by rw [q, x.lnew] at e; cases e
  have hlen : σ.length = σ.length := rfl
  have hi2 : EInv h₀ names_law env none (Wall W env ow) (List.replicate 22 .no ++ [.val (.str nm)]) h2 := by
    have only : ∀ (i : Nat) (d : D), (List.replicate 22 Slot.no ++ [Slot.val (.str nm)])[i]? = some (.val d) → i = 22 ∧ d = .str nm := fun i d e => by
      by_cases hi : i < 22
      · rw [List.getElem?_append_left (by simpa using hi), List.getElem?_replicate, if_pos hi] at e
        cases e
      · rw [List.getElem?_append_right (by simpa using hi)] at e
        simp only [List.length_replicate] at e
        have : i - 22 = 0 := by
          cases q : i - 22 with
          | zero => rfl
          | succ k => rw [q] at e; simp at e
        rw [this] at e
        simp only [List.getElem?_cons_zero, Option.some.injEq, Slot.val.injEq] at e
        exact ⟨by omega, e.symm⟩
    constructor
    · exact fun b o e => nr2.1 b o (x₁.base b o e) (by simpa using ne_loc b o e)
    · intro b hb
      obtain ⟨o, e⟩ := x₁.wall b hb
      obtain ⟨sl, e'⟩ := nr2.2 b o e
      exact ⟨_, e'⟩
    · intro _ i y d h1' h2' h3'
      obtain ⟨rfl, rfl⟩ := only i d h2'
      obtain ⟨v, hv, rv⟩ := x₁.loc 22 y _ h1' a.n h3'
      refine ⟨m, v, nr2.ns x₁.ns, hv, ?_⟩
      unfold Rep at rv ⊢
      exact rv
    · intro i y d h1' h2' h3'
      obtain ⟨rfl, rfl⟩ := only i d h2'
      obtain ⟨c, v, hv, ⟨o, ho, hd⟩, rv⟩ := x₁.cel 22 y _ h1' a.n h3'
      refine ⟨c, v, hv, ⟨o, nr2.1 c o ho (by simpa using (x₁.cW y c hv).2.1), hd⟩, ?_⟩
      unfold Rep at rv ⊢
      exact rv
    · exact fun y d e => nomatch e
  have hn0 : nm.length ≤ 1000 := a.nlen
  have hbig : ∀ l : List Nat, l.length ≤ 1000 → l.length + nm.length ≤ big := fun l hl => by unfold big; omega
  have hright : evE (Fn 5000 21) (List.replicate 22 .no ++ [.val (.str nm)]) none endR = some (.lst [.str (noDec ++ nm), .str (noEnc ++ nm)]) :=
    e_lst (e_args (e_cats (e_str noDec) (e_var rfl) (hbig _ (by decide))) (e_args (e_cats (e_str noEnc) (e_var rfl) (hbig _ (by decide))) e_args0))
  refine (ev_all (σ := List.replicate 22 .no ++ [.val (.str nm)]) G hA hF endR r env none he c4).ev (Wall W env ow) ⟨h2, s.gens, s.drawn, tk2, s.os⟩ _ _ hright hi2 fun v2 s3 k3 r3 => ?_
  obtain ⟨h3, t3, rfl, kk3⟩ := k3
  dsimp only at kk3 r3 ⊢
  have hsurS : strsOk [noDec ++ nm, noEnc ++ nm] = true := by
    have d1 : noDec.all (· < 1114112) = true := by decide
    have d2 : noEnc.all (· < 1114112) = true := by decide
    simp only [strsOk, List.all_cons, List.all_nil, List.all_append, a.ncp, d1, d2, Bool.and_true]
  refine cmp_ok (op := .eq) (r := true) hA rfl (r2.keeps kk3) r3 ?_ fun s4 k4 => ?_
  · have b2 : (2 : Nat) ≤ big := by decide
    have hl2 : [D.str (noDec ++ nm), D.str (noEnc ++ nm)].length ≤ big ∧ [D.str (noDec ++ nm), D.str (noEnc ++ nm)].length ≤ big := ⟨b2, b2⟩
    have hs2 : strsOf [D.str (noDec ++ nm), D.str (noEnc ++ nm)] = some [noDec ++ nm, noEnc ++ nm] := rfl
    have hi0 : intsOf [D.str (noDec ++ nm), D.str (noEnc ++ nm)] = none := rfl
    simp only [evCmp, evEq]
    rw [if_pos hl2, hs2, hi0]
    simp only [hsurS, Bool.and_true, if_true, beq_self_eq_true]
  · obtain ⟨h4, t4, rfl, kk4⟩ := k4
    refine hq h4 t4 ⟨fun b o e nf => kk4 _ _ (kk3 _ _ (nr2.1 b o (kk₁ b o e) nf)), fun b o e => ?_⟩
    obtain ⟨sl, e'⟩ := nr2.2 b _ (kk₁ b o e)
    exact ⟨sl, kk4 _ _ (kk3 _ _ e')⟩

noncomputable def noW : AddrSet := fun _ => False

/-- the law's whole call -/
theorem law_ok (T : Top V loose mean mg mb h₀) (hp : NoPrim mg) (X : (KH w.params).In h₀) (hA : Room A 22) (hfr : A.frames = some []) (hs : s.heap = h₀) {fl l : Addr} {vs : List Value} {script : List Int}
    (hfl : mg "law" = some (.ref fl)) (hl : s.heap.PlainList l vs.toArray) (hi : IntsAre vs script) {σ : List Slot} {octs : List Int} {text nm : List Nat}
    (hx : exS (Fn 5000 21) 5000 (start names_law.length 1 [.lst (script.map .int)]) P_law = some (.next σ)) (a : AtEnd σ octs text nm) {Q : Value → Shared → Prop}
    (hq : ∀ h' tk, (∀ b o, s.heap.get? b = some o → h'.get? b = some o) → Q (.bool true) { s with heap := h', toks := tk }) : wpAny (model prog w) A (call (.ref fl) [.ref l]) Q (fun _ _ => False) s := by
  obtain ⟨dr, hd, hx'⟩ := List.any_eq_true.mp chk_law
  simp only [Bool.and_eq_true, beq_iff_eq, chkLaw] at hx'
  obtain ⟨hname, ⟨hh, hS⟩, hE'⟩ := hx'
  obtain ⟨f, o, pm, code, doc, h1, h2, h3, h4⟩ := T.fn dr hd
  have G := gl_of T chk_view hp
  have hff : fl = f := by
    rw [hname] at h1
    have := hfl.symm.trans h1
    cases this; rfl
  subst hff
  obtain ⟨last, hlast, hce⟩ := any_some hE'
  have hbody : dr.body = dr.body.dropLast ++ [last] := by
    have hne : dr.body ≠ [] := fun q => by rw [q] at hlast; cases hlast
    rw [List.getLast?_eq_some_getLast hne] at hlast
    cases hlast
    exact (List.dropLast_concat_getLast hne).symm
  have hW : WOk noW s.heap := fun a q => q.elim
  have hr : RepL noW s.heap [.lst (script.map .int)] [.ref l] := RepL.cons (by unfold Rep; exact ⟨l, vs, rfl, id, hl, RepL.ofInts hi⟩) RepL.nil
  refine wpAny_call (fn_enter hh G (by have := hA.depth; omega) h2 h3 h4 rfl (fun b o e => by rw [hs]; exact e) hW hr fun env m h₁ t₁ hE eS eF hL hcs keep hSI => ?_)
  have hnd : names_law.Nodup := by decide +kernel
  have hA' : Room (A.deeper env) 21 := hA.deeper env
  have hF := all_ok (wf := 5000) (w := w) (prog := prog) T chk_view hp 21 (A.deeper env) (by omega) hA'
  rw [hbody]
  refine execs_app (wpAny_mono (exS_ok (wf := 5000) hnd hE G hA' hF P_law dr.body.dropLast (by rw [eS]; exact hS) noW m _ _ { s with heap := h₁, toks := t₁ } (.next σ) _ hx hSI fun f s' p => p) (fun f s₂ p => ?_) fun _ _ q => q.elim)
  obtain ⟨rfl, m2, ow2, st2, ws2, x2⟩ := p
  have kp2 : ∀ b o, s.heap.get? b = some o → s₂.heap.get? b = some o := fun b o e => st2.kept b o (keep b o e) fun q => by
    rcases q with q | ⟨y, q⟩ | ⟨i, q⟩
    · rw [q, hL] at e; cases e
    · rw [hcs y b q] at e; cases e
    · cases q
  obtain ⟨h2', t2', rfl, _, _⟩ := st2
  dsimp only at kp2 x2 ⊢
  refine wpAny_execs_cons (wpAny_mono (law_end (s := { s with heap := h2', toks := t2' }) T hp X hE hA' (Around.frames_deeper hfr) eF (by rw [eS]; exact hce) x2 a (Q := fun f s' => f = .ret (.bool true) ∧ ∃ h' tk, s' = { s with heap := h', toks := tk } ∧ Near [env.locals] h2' h') fun h' tk nr => ⟨rfl, h', tk, rfl, nr⟩) (fun f s₃ q => ?_) fun _ _ q => q.elim)
  obtain ⟨rfl, h', tk, rfl, nr⟩ := q
  exact hq h' tk fun b o e => nr.1 b o (kp2 b o e) (by
    rw [List.mem_singleton]
    rintro rfl
    rw [hL] at e; cases e)
end
end Mine

namespace Mine
open PySem PySem.W PySem.Calls PyProof.Rows PySem.SeqAt PySem.W.X

theorem pure_law (script : List Int) (h : script.length ≤ 63) : ∃ σ octs text nm, exS (Fn 5000 21) 5000 (start names_law.length 1 [.lst (script.map .int)]) P_law = some (.next σ) ∧ AtEnd σ octs text nm := by
  obtain ⟨o, b3, b4, b5, hA, ho⟩ := phaseA (s := script) h
  obtain ⟨us, odd, z10, hC, hu, hul⟩ := phaseC (s := script) (o := o) (b3 := b3) (b4 := b4) (b5 := b5) h
  have hbg := flat16_ok true hu hul
  have hD := fun b2 b3 b4 b5 b6 b7 b8 b9 b10 b11 => phaseD (s := script) (b2 := b2) (b3 := b3) (b4 := b4) (b5 := b5) (b6 := b6) (b7 := b7) (b8 := b8) (b9 := b9) (b10 := b10) (b11 := b11) h
  obtain ⟨ps, pts, y15, y16, y17, y18, y19, hD, hP, hl5, hpts⟩ := hD _ _ _ _ _ _ _ _ _ _
  obtain ⟨nm, y23, y24, y25, hE, hmem⟩ := phaseE (s := script) (o := o) (bg := us.flatMap (oct16 true)) h ho hbg hP hl5 hpts
  obtain ⟨n1, n2⟩ := refused_ok nm hmem
  have n3 : nm ∉ knownNames := by
    have : ∀ l ∈ refused, l ∉ knownNames := by decide
    exact this nm hmem
  exact ⟨_, o, ps.map Int.toNat, nm, hA _ _ (hC _ _ (hD _ _ hE)), ⟨rfl, rfl, rfl, ho.1, by have := ho.2; unfold big; omega, n1, n3, n2⟩⟩

theorem prim_none {mg : PySem.Str → Option Value} {h : Heap} {P : Params} (X : (KH P).In h) (g : h.Ns mainGlobals mg) : NoPrim mg := ⟨fun q => ns_none_of X g (by cases q <;> kernel_rfl), ns_none_of X g (by kernel_rfl)⟩
theorem room0 : Room callerA 22 := ⟨rfl, by decide +kernel, by decide +kernel⟩
end Mine
open PySem PySem.W PySem.Calls PyProof.Rows PySem.W.X Mine
set_option maxHeartbeats 8000000 in
theorem PySem.Challenge.cw_nz0090_01_holds : PySem.Challenge.rw_nz0090_01.Holds := by
  refine holds_of ?_
  intro w s₀ s₁ mg mb G y fa o pm cd doc dV kV ho hd hcd hD hmg hg args vals as hpre hlay hrd hwl hlo
  have KX := kIn_of y
  refine Ground.open G ?_
  intro T B D TE TW
  wrow_args hpre hlay hrd hwl hlo
  (rename Well _ _ (Value.ref _) _ => hw)
  (rename IntsAre _ _ => hi)
  (rename ¬ _ < _ => hle)
  (rename List Int => script)
  obtain ⟨σ, octs, text, nm, hx, ha⟩ := pure_law script (by omega)
  have hgl := T.g
  cases hw with
  | list hob hall =>
    refine wpAny_mono (law_ok (s := s₁) T (prim_none KX hgl) KX room0 rfl rfl hmg ⟨_, hob⟩ ?_ hx ha (Q := fun v s' => v = .bool true ∧ ∃ h' tk, s' = { s₁ with heap := h', toks := tk } ∧ ∀ b o, s₁.heap.get? b = some o → h'.get? b = some o) fun h' tk k => ⟨rfl, h', tk, rfl, k⟩) (fun v s' q => ?_) fun _ _ q => q.elim
    · (rename Heap.IsList _ _ _ => hLs)
      obtain ⟨o', ho', _, n', hd'⟩ := hLs
      rw [hob] at ho'
      cases ho'
      simp only [Data.seq.injEq] at hd'
      have e := congrArg Array.toList hd'.1
      simp only at e
      rw [e]
      exact hi
    · obtain ⟨rfl, h', tk, rfl, k⟩ := q
      refine GoodW.toG ⟨.inl ⟨.bool true, .bool true, [], rfl, raisesW_false (by wrow_none_raised), ?_, ?_, ?_⟩, k, rfl, hg⟩
      · exact .bool true
      · wrow_post
      · intro _; exact ⟨List.nodup_nil, fun a q => by cases q⟩

