import PyProof.Rows.All
import Wide.All
import OpenK.AllK
import Wide.FinOn
import HandS.ForMost
import HandS.Evl
import HandS.Deep
import HandS.IsInst
import KE.SortData
import KE.DataMinMax
import KE.KDictSum
import HandS.Conv
import HandS.ForExc
import HandS.ExcInit
import HandS.TupLen
import HandS.CallSlots
import HandS.DictComp
import HandS.Zip
import HandS.Codes
import KE.GoesMore
import HandS.ListItems
import HandS.DictTup
import KE.KDictKeyed
import HandS.NoneIn
import HandS.OwnEq
import PyProof.InstNe
import HandS.TryMany
import HandS.ExcField
import HandS.Lambda
import KE.SortLaws
import HandS.HeadHook4
import HandS.HeadWalk
import HandS.Head0
import HandS.Head1
import HandS.Head2
import KE.KStateDown
import PySem.Challenge.RW_objections_k73_whole_rises_and_falls
set_option Elab.async false
set_option linter.all false
set_option maxRecDepth 100000
set_option maxHeartbeats 4000000
namespace K73
open PySem L2 Evl

/-! ### Lean values borne by Python values -/
/-- how a Lean value of the type is borne: At H v x; the datum that it reads as -/
class Enc (α : Type) where
  At : Hp → V → α → Prop
  enc : α → PyData
  dep : Nat
  mono : ∀ {H H' : Hp} {v : V} {x : α}, Ex H H' → At H v x → At H' v x
  dp : ∀ {K : PySem.W.Frag} {H : Hp} {v : V} {x : α}, At H v x → Dp K H v (enc x)
  lay : ∀ {H : Hp} {v : V} {x : α}, At H v x → (enc x).canLay0 = true
  depth : ∀ x : α, (enc x).depth ≤ dep
  alike : ∀ x y : α, PySem.W.alike (enc x) (enc y) = true
  inj : ∀ {x y : α}, enc x = enc y → x = y
  eqv : ∀ {x y : α}, PyData.eqv (enc x) (enc y) = true → enc x = enc y
  kind : (∀ x : α, ∃ a r, enc x = .tuple (a :: r)) ∨ ∀ x : α, enc x ≠ .none ∧ ∀ ys, enc x ≠ .tuple ys
open Enc (At enc)

instance : Enc Str where
  At := fun _ v s => v = .str s ∧ PyData.strOk s = true
  enc := .str
  dep := 0
  mono := fun _ h => h
  dp := fun h => by rw [h.1]; exact .str _
  lay := fun h => by simpa [PyData.canLay0] using h.2
  depth := fun _ => Nat.le_refl 0
  alike := fun _ _ => rfl
  inj := fun h => by injection h
  eqv := fun {x y} h => by
    have e : x = y := by simpa [PyData.eqv] using h
    rw [e]
  kind := .inr fun _ => ⟨fun h => (nomatch h), fun _ h => (nomatch h)⟩

instance : Enc Int where
  At := fun _ v i => v = .int i
  enc := .int
  dep := 0
  mono := fun _ h => h
  dp := fun h => by rw [h]; exact .int _
  lay := fun _ => rfl
  depth := fun _ => Nat.le_refl 0
  alike := fun _ _ => rfl
  inj := fun h => by injection h
  eqv := fun {x y} h => by
    have e : x = y := by simpa [PyData.eqv] using h
    rw [e]
  kind := .inr fun _ => ⟨fun h => (nomatch h), fun _ h => (nomatch h)⟩

theorem dpAll_two {K : PySem.W.Frag} {H : Hp} {a b : V} {d e : PyData} (h1 : Dp K H a d) (h2 : Dp K H b e) : DpAll K H [a, b] [d, e] := .cons h1 (.cons h2 .nil)

instance {α β : Type} [Enc α] [Enc β] : Enc (α × β) where
  At := fun H v x => ∃ p va vb, v = .ref p ∧ H p = some (.tup [va, vb]) ∧ At H va x.1 ∧ At H vb x.2
  enc := fun x => .tuple [enc x.1, enc x.2]
  dep := max (Enc.dep α) (Enc.dep β) + 1
  mono := fun e ⟨p, va, vb, h1, h2, h3, h4⟩ => ⟨p, va, vb, h1, e _ _ h2, Enc.mono e h3, Enc.mono e h4⟩
  dp := fun ⟨p, va, vb, h1, h2, h3, h4⟩ => by
    rw [h1]
    exact .tup (SqT.of h2) (dpAll_two (Enc.dp h3) (Enc.dp h4))
  lay := fun ⟨p, va, vb, h1, h2, h3, h4⟩ => by
    simp only [PyData.canLay0, PyData.canLayAll0, Enc.lay h3, Enc.lay h4, Bool.and_self]
  depth := fun x => by
    have h1 := Enc.depth x.1
    have h2 := Enc.depth x.2
    simp only [PyData.depth, PyData.depthAll]
    omega
  alike := fun x y => by simp only [PySem.W.alike, PySem.W.alikeAll, Enc.alike, Bool.and_self]
  inj := fun {x y} h => by
    injection h with h
    injection h with h1 h2
    injection h2 with h2 _
    exact Prod.ext (Enc.inj h1) (Enc.inj h2)
  eqv := fun {x y} h => by
    simp only [PyData.eqv, PyData.eqvAll, Bool.and_eq_true] at h
    rw [Enc.eqv h.1, Enc.eqv h.2.1]
  kind := .inl fun x => ⟨_, _, rfl⟩

/-- each of some values bears the one at its place -/
abbrev Each {α : Type} [Enc α] (H : Hp) : List V → List α → Prop := Paired (At H)

theorem Each.mono {α : Type} [Enc α] {H H' : Hp} (e : Ex H H') : ∀ {vs : List V} {xs : List α}, Each H vs xs → Each H' vs xs
  | _, _, .nil => .nil
  | _, _, .cons h t => .cons (Enc.mono e h) (Each.mono e t)
theorem Each.dp {α : Type} [Enc α] {K : PySem.W.Frag} {H : Hp} : ∀ {vs : List V} {xs : List α}, Each H vs xs → DpAll K H vs (xs.map enc)
  | _, _, .nil => .nil
  | _, _, .cons h t => .cons (Enc.dp h) (Each.dp t)
theorem Each.lay {α : Type} [Enc α] {H : Hp} : ∀ {vs : List V} {xs : List α}, Each H vs xs → PyData.canLayAll0 (xs.map enc) = true
  | _, _, .nil => rfl
  | _, _, .cons h t => by
    simp only [List.map_cons, PyData.canLayAll0, Enc.lay h, Each.lay t, Bool.and_self]
theorem Each.length {α : Type} [Enc α] {H : Hp} {vs : List V} {xs : List α} (h : Each H vs xs) : vs.length = xs.length := Paired.length h
theorem depthAll_le {α : Type} [Enc α] : ∀ xs : List α, PyData.depthAll (xs.map enc) ≤ Enc.dep α
  | [] => Nat.zero_le _
  | x :: xs => by
    have h1 := Enc.depth x
    have h2 := depthAll_le xs
    simp only [List.map_cons, PyData.depthAll]
    omega
theorem alikeAll_enc {α : Type} [Enc α] : ∀ xs ys : List α, PySem.W.alikeAll (xs.map enc) (ys.map enc) = true
  | [], [] => rfl
  | [], _ :: _ => rfl
  | _ :: _, [] => rfl
  | x :: xs, y :: ys => by simp only [List.map_cons, PySem.W.alikeAll, Enc.alike, alikeAll_enc xs ys, Bool.and_self]
theorem map_enc_inj {α : Type} [Enc α] : ∀ {xs ys : List α}, xs.map enc = ys.map enc → xs = ys
  | [], [], _ => rfl
  | [], _ :: _, h => by simp at h
  | _ :: _, [], h => by simp at h
  | x :: xs, y :: ys, h => by
    simp only [List.map_cons, List.cons.injEq] at h
    rw [Enc.inj h.1, map_enc_inj h.2]
theorem eqvAll_enc {α : Type} [Enc α] : ∀ {xs ys : List α}, PyData.eqvAll (xs.map enc) (ys.map enc) = true → xs.map enc = ys.map enc
  | [], [], _ => rfl
  | [], _ :: _, h => by simp [PyData.eqvAll] at h
  | _ :: _, [], h => by simp [PyData.eqvAll] at h
  | x :: xs, y :: ys, h => by
    simp only [List.map_cons, PyData.eqvAll, Bool.and_eq_true] at h
    rw [List.map_cons, List.map_cons, Enc.eqv h.1, eqvAll_enc h.2]

instance {α : Type} [Enc α] : Enc (List α) where
  At := fun H v xs => ∃ p vs, v = .ref p ∧ H p = some (.lst vs) ∧ Each H vs xs
  enc := fun xs => .list (xs.map enc)
  dep := Enc.dep α + 1
  mono := fun e ⟨p, vs, h1, h2, h3⟩ => ⟨p, vs, h1, e _ _ h2, Each.mono e h3⟩
  dp := fun ⟨p, vs, h1, h2, h3⟩ => by
    rw [h1]
    exact .lst (SqL.of h2) (Each.dp h3)
  lay := fun ⟨p, vs, h1, h2, h3⟩ => by simp only [PyData.canLay0]; exact Each.lay h3
  depth := fun xs => by
    have h := depthAll_le xs
    simp only [PyData.depth]
    omega
  alike := fun x y => by simp only [PySem.W.alike]; exact alikeAll_enc x y
  inj := fun {x y} h => by
    injection h with h
    exact map_enc_inj h
  eqv := fun {x y} h => by
    simp only [PyData.eqv] at h
    rw [eqvAll_enc h]
  kind := .inr fun _ => ⟨fun h => (nomatch h), fun _ h => (nomatch h)⟩

section
variable {α β : Type} [Enc α] [Enc β]
theorem eqv_enc [DecidableEq α] (x y : α) : PyData.eqv (enc x) (enc y) = decide (x = y) := by
  cases h : PyData.eqv (enc x) (enc y) with
  | true => exact (decide_eq_true (Enc.inj (Enc.eqv h))).symm
  | false =>
    refine (decide_eq_false fun e => ?_).symm
    subst e
    rw [PySem.W.eqv_refl_alike _ (Enc.alike x x)] at h
    cases h
theorem shaped_enc {H : Hp} {v : V} {x : α} (h : At H v x) (hd : Enc.dep α ≤ 64) : SeqAt.shaped (enc x) = true := by
  unfold SeqAt.shaped
  rw [Enc.lay h, Bool.true_and]
  exact decide_eq_true (Nat.le_trans (Enc.depth x) hd)
/-! ### the plain constructors -/
theorem at_str {H : Hp} {s : Str} (h : PyData.strOk s = true) : At H (.str s) s := ⟨rfl, h⟩
theorem at_int {H : Hp} (i : Int) : At H (.int i) i := rfl
theorem at_pair {H : Hp} {p : Addr} {va vb : V} {a : α} {b : β} (h : H p = some (.tup [va, vb])) (ha : At H va a) (hb : At H vb b) : At H (.ref p) (a, b) := ⟨p, va, vb, rfl, h, ha, hb⟩
theorem at_list {H : Hp} {p : Addr} {vs : List V} {xs : List α} (h : H p = some (.lst vs)) (hs : Each H vs xs) : At H (.ref p) xs := ⟨p, vs, rfl, h, hs⟩
theorem Each.snoc {H : Hp} {vs : List V} {xs : List α} {v : V} {x : α} (h : Each H vs xs) (a : At H v x) : Each H (vs ++ [v]) (xs ++ [x]) := Paired.snoc h a
theorem Each.append {H : Hp} : ∀ {vs ws : List V} {xs ys : List α}, Each H vs xs → Each H ws ys → Each H (vs ++ ws) (xs ++ ys)
  | _, _, _, _, .nil, h => h
  | _, _, _, _, .cons a t, h => .cons a (Each.append t h)
theorem Each.get {H : Hp} : ∀ {vs : List V} {xs : List α} {i : Nat} {v : V}, Each H vs xs → vs[i]? = some v → ∃ x, xs[i]? = some x ∧ At H v x
  | _, _, _, _, .nil, e => by simp at e
  | _, _, 0, _, .cons r _, e => by simp at e; subst e; exact ⟨_, rfl, r⟩
  | _, _, i + 1, v, .cons _ t, e => by
    obtain ⟨u, h1, h2⟩ := Each.get (i := i) (v := v) t (by simpa using e)
    exact ⟨u, by simpa using h1, h2⟩
theorem Each.get' {H : Hp} : ∀ {vs : List V} {xs : List α} {i : Nat} {x : α}, Each H vs xs → xs[i]? = some x → ∃ v, vs[i]? = some v ∧ At H v x
  | _, _, _, _, .nil, e => by simp at e
  | _, _, 0, _, .cons r _, e => by simp at e; subst e; exact ⟨_, rfl, r⟩
  | _, _, i + 1, v, .cons _ t, e => by
    obtain ⟨u, h1, h2⟩ := Each.get' (i := i) (x := v) t (by simpa using e)
    exact ⟨u, by simpa using h1, h2⟩
theorem Each.drop {H : Hp} : ∀ {vs : List V} {xs : List α} (n : Nat), Each H vs xs → Each H (vs.drop n) (xs.drop n)
  | _, _, 0, h => h
  | _, _, _ + 1, .nil => .nil
  | _, _, n + 1, .cons _ t => Each.drop n t
theorem Each.take {H : Hp} : ∀ {vs : List V} {xs : List α} (n : Nat), Each H vs xs → Each H (vs.take n) (xs.take n)
  | _, _, 0, h => .nil
  | _, _, _ + 1, .nil => .nil
  | _, _, n + 1, .cons h t => .cons h (Each.take n t)
/-- a list of texts: the values are the texts -/
theorem each_strs {H : Hp} : ∀ {vs : List V} {xs : List Str}, Each H vs xs → vs = xs.map V.str
  | _, _, .nil => rfl
  | _, _, .cons h t => by
    have h1 := h.1
    rw [each_strs t, h1]; rfl
theorem each_ints {H : Hp} : ∀ {vs : List V} {xs : List Int}, Each H vs xs → vs = xs.map V.int
  | _, _, .nil => rfl
  | _, _, .cons h t => by
    have h' : _ = _ := h
    rw [each_ints t, h']; rfl
theorem strs_each {H : Hp} : ∀ {xs : List Str}, (∀ x ∈ xs, PyData.strOk x = true) → Each H (xs.map V.str) xs
  | [], _ => .nil
  | x :: xs, h => .cons (at_str (h x List.mem_cons_self)) (strs_each fun y hy => h y (List.mem_cons_of_mem _ hy))
theorem each_ok {H : Hp} : ∀ {vs : List V} {xs : List Str}, Each H vs xs → ∀ x ∈ xs, PyData.strOk x = true
  | _, _, .cons h t, x, hx => by
    rcases List.mem_cons.mp hx with e | e
    · rw [e]; exact h.2
    · exact each_ok t x e
end

/-- a new object -/
def New (H : Hp) (v : V) : Prop := ∃ p, v = .ref p ∧ H p = none
theorem New.back {H H' : Hp} {v : V} (e : Ex H H') (h : New H' v) : New H v := let ⟨p, h1, h2⟩ := h; ⟨p, h1, fresh_back e h2⟩

/-! ### == and in of data, by their Lean values -/
section
variable {X : Cx} {α : Type} [Enc α] [DecidableEq α]
/-- x == y, x != y -/
def rEqA (α : Type) [Enc α] [DecidableEq α] : R2 := fun x y H Q => ∃ a b : α, At H x a ∧ At H y b ∧ Q (.bl (decide (a = b))) H
def rNeA (α : Type) [Enc α] [DecidableEq α] : R2 := fun x y H Q => ∃ a b : α, At H x a ∧ At H y b ∧ Q (.bl (!decide (a = b))) H
theorem op_eqA (hd : Enc.dep α ≤ 64) (hu : X.A.units + 64 < cLine) : OpR X (compareOp .Eq) (rEqA α) := by
  intro pins s σ H x y v u Q I rx ry h
  obtain ⟨a, b, ha, hb, q⟩ := h
  refine op_eqD hu pins s σ H x y v u Q I rx ry ⟨_, _, Enc.dp ha, Enc.dp hb, shaped_enc ha hd, shaped_enc hb hd, ?_⟩
  rw [eqv_enc]
  exact q
theorem op_neA (hd : Enc.dep α ≤ 64) (hu : X.A.units + 64 < cLine) : OpR X (compareOp .NotEq) (rNeA α) := by
  intro pins s σ H x y v u Q I rx ry h
  obtain ⟨a, b, ha, hb, q⟩ := h
  refine op_neD hu pins s σ H x y v u Q I rx ry ⟨_, _, Enc.dp ha, Enc.dp hb, shaped_enc ha hd, shaped_enc hb hd, ?_⟩
  rw [eqv_enc]
  exact q
theorem any_enc (x : α) : ∀ xs : List α, ((xs.map enc).any fun z => PyData.eqv z (enc x)) = decide (x ∈ xs)
  | [] => by simp
  | y :: xs => by
    rw [List.map_cons, List.any_cons, any_enc x xs, eqv_enc]
    by_cases h : y = x
    · subst h; simp
    · have h' : ¬ x = y := fun e => h e.symm
      simp [h, h']
/-- x in xs, x not in xs -/
def rInA (α : Type) [Enc α] [DecidableEq α] : R2 := fun x y H Q => ∃ (a : α) (bs : List α), At H x a ∧ At H y bs ∧ Q (.bl (decide (a ∈ bs))) H
def rNotInA (α : Type) [Enc α] [DecidableEq α] : R2 := fun x y H Q => ∃ (a : α) (bs : List α), At H x a ∧ At H y bs ∧ Q (.bl (!decide (a ∈ bs))) H
theorem op_inA (hd : Enc.dep α ≤ 63) (hu : X.A.units + 65 < cLine) : OpR X (compareOp .In) (rInA α) := by
  intro pins s σ H x y v u Q I rx ry h
  obtain ⟨a, bs, ha, hb, q⟩ := h
  refine op_inD hu pins s σ H x y v u Q I rx ry ⟨enc a, bs.map enc, Enc.dp ha, Enc.dp hb, shaped_enc ha (by omega), shaped_enc hb (by show Enc.dep α + 1 ≤ 64; omega), ?_⟩
  rw [any_enc]
  exact q
theorem op_notInA (hd : Enc.dep α ≤ 63) (hu : X.A.units + 65 < cLine) : OpR X (compareOp .NotIn) (rNotInA α) := by
  intro pins s σ H x y v u Q I rx ry h
  obtain ⟨a, bs, ha, hb, q⟩ := h
  refine op_notInD hu pins s σ H x y v u Q I rx ry ⟨enc a, bs.map enc, Enc.dp ha, Enc.dp hb, shaped_enc ha (by omega), shaped_enc hb (by show Enc.dep α + 1 ≤ 64; omega), ?_⟩
  rw [any_enc]
  exact q
end
end K73
set_option maxRecDepth 100000
set_option maxHeartbeats 4000000
namespace K73
open Enc (At enc)
open PySem L2 Evl PySem.Calls
open PySem.W (EachIs dataLe dataLt)

def ltA {α : Type} [Enc α] (a b : α) : Bool := dataLt (enc a) (enc b)
def srt {α : Type} [Enc α] (xs : List α) : List α := xs.mergeSort (dataLe false enc)
def minA {α : Type} [Enc α] (x : α) (xs : List α) : α := xs.foldl (fun b y => if ltA y b = true then y else b) x

section
variable {α : Type} [Enc α] {X : Cx} {pins : List (Addr × Obj)} {σ : L2.St} {H : Hp} {s : Shared}

/-- u is a value of which some V that bears x speaks -/
def Bears (H : Hp) (u : Value) (x : α) : Prop := ∃ v, RelV v u ∧ At H v x
theorem bears_each : ∀ {ys : List V} {us : List Value} {xs : List α}, Vals ys us → Each H ys xs → EachIs (Bears H) us xs
  | _, _, _, .nil, .nil => .nil
  | _, _, _, .cons r t, .cons a b => .cons ⟨_, r, a⟩ (bears_each t b)
theorem each_bears : ∀ {us : List Value} {xs : List α}, EachIs (Bears H) us xs → ∃ ys, Vals ys us ∧ Each H ys xs
  | _, _, .nil => ⟨[], .nil, .nil⟩
  | _, _, .cons h t => by
    obtain ⟨v, r, a⟩ := h
    obtain ⟨ys, r', a'⟩ := each_bears t
    exact ⟨v :: ys, .cons r r', .cons a a'⟩
theorem reads_of (I : Inv X pins σ H s) {u : Value} {x : α} (h : Bears H u x) : ∃ as, Reads s.heap u (enc x) as := by
  obtain ⟨v, r, a⟩ := h
  exact Dp.reads I _ _ _ (Enc.dp a) r
theorem sortable_enc (xs : List α) : PySem.W.Sortable (xs.map enc) := by
  rcases (Enc.kind : (∀ x : α, ∃ a r, enc x = .tuple (a :: r)) ∨ _) with h | h
  · exact PySem.W.Sortable.tuples h
  · exact PySem.W.Sortable.others h
theorem srt_length (xs : List α) : (srt xs).length = xs.length := List.length_mergeSort _
theorem srt_perm (xs : List α) : (srt xs).Perm xs := List.mergeSort_perm _ _

/-- sorted(xs) -/
def rSrt (α : Type) [Enc α] : List V → Hp → VK → Prop := fun vs H Q => ∃ (v : V) (xs : List α), vs = [v] ∧ At H v xs ∧ ∀ p ws, H p = none → Each H ws (srt xs) → Q (.ref p) (upd H p (.lst ws))
theorem cr_srt (hd : Enc.dep α ≤ 60) (hu : X.A.units + 64 < cLine) : CallR X (.builtin "sorted") (rSrt α) := by
  intro pins s σ H vs us Q I r h
  obtain ⟨v, xs, rfl, ⟨a, ys, rfl, ha, he⟩, q⟩ := h
  obtain ⟨its, rv, hl, hz⟩ := I.list (SqL.of (K := X.K) ha)
  rw [Vals.ref1 r]
  have e := bears_each rv he
  refine PySem.W.sorted_data (bs := xs) (R := Bears H) hl.isList e (e.mono fun _ _ h => reads_of I h) (PySem.W.AllAlike.of Enc.alike) (sortable_enc xs) (by rw [← he.length]; exact hz)
    (fun b _ => by have := Enc.depth b; omega) fun out ho hb => ?_
  obtain ⟨ws, r', e'⟩ := each_bears hb
  obtain ⟨ep, hat⟩ := PyProof.Rows.sortedAll_at s.heap its out.toArray
  have hlen : ws.length ≤ sizeLine := by
    rw [e'.length, List.length_mergeSort, ← he.length]
    exact hz
  exact ⟨.ref _, upd H (s.heap.objs.size + 1) (.lst ws), I.laid (t' := s.toks) (fun _ _ => PyProof.Rows.sortedAll_old) (Nat.le_succ _) ⟨hlen, out, ep, r', hat⟩, rfl, q _ ws (I.hok.fresh (Nat.le_succ _)) e'⟩

theorem minD_enc : ∀ (xs : List α) (x : α), PySem.W.minD (enc x) (xs.map enc) = enc (minA x xs)
  | [], x => rfl
  | y :: xs, x => by
    show PySem.W.minD (if dataLt (enc y) (enc x) = true then enc y else enc x) (xs.map enc) = enc (minA (if ltA y x = true then y else x) xs)
    rw [← minD_enc xs]
    congr 1
    show _ = enc (if dataLt (enc y) (enc x) = true then y else x)
    split <;> rfl
/-- min(xs), xs not empty -/
def rMin (α : Type) [Enc α] : List V → Hp → VK → Prop := fun vs H Q => ∃ (v : V) (x : α) (xs : List α), vs = [v] ∧ At H v (x :: xs) ∧ ∀ w, At H w (minA x xs) → Q w H
theorem cr_min (hc : X.calm = true) (hd : Enc.dep α ≤ 60) (hn : ∀ x : α, enc x ≠ .none) (hu : X.A.units + 64 < cLine) : CallR X (.builtin "min") (rMin α) := by
  intro pins s σ H vs us Q I r h
  obtain ⟨v, x, xs, rfl, ⟨a, ys, rfl, ha, he⟩, q⟩ := h
  obtain ⟨its, rv, hl, hz⟩ := I.list (SqL.of (K := X.K) ha)
  rw [Vals.ref1 r]
  obtain ⟨as, ra⟩ := Dp.readsAll I _ _ its he.dp rv
  have hdep : PyData.depthAll ((x :: xs).map (enc : α → PyData)) ≤ Enc.dep α := depthAll_le _
  refine PySem.W.min_list_data (x := enc x) (xs := xs.map enc) (as := as) (I.ok.hd hc) hl.isList (by simpa using ra) ⟨fun d hd d' hd' => ?_, fun d hd => ?_⟩ ?_ fun i u h' tk bs hi hr k => ?_
  · rw [← List.map_cons] at hd hd'
    obtain ⟨y, _, rfl⟩ := List.mem_map.mp hd
    obtain ⟨y', _, rfl⟩ := List.mem_map.mp hd'
    exact Enc.alike _ _
  · rw [← List.map_cons] at hd
    obtain ⟨y, _, rfl⟩ := List.mem_map.mp hd
    exact hn y
  · rw [List.map_cons] at hdep
    omega
  · rw [minD_enc] at hr
    have hi' : its[i]? = some u := by simpa using hi
    have I' := I.kept (t' := tk) k
    have hlt : i < ys.length := by
      have := (List.getElem?_eq_some_iff.mp hi').1
      rw [← rv.length] at this
      exact this
    obtain ⟨w, hw⟩ : ∃ w, ys[i]? = some w := ⟨ys[i], List.getElem?_eq_getElem hlt⟩
    obtain ⟨u', hu', rw'⟩ := Vals.get rv hw
    rw [hi'] at hu'
    cases hu'
    obtain ⟨y, hy, ay⟩ := Each.get he hw
    obtain ⟨cs, hr2⟩ := Dp.reads I' _ _ _ (Enc.dp ay) rw'
    have e1 := PySem.W.alike_unique _ _ _ _ _ (Enc.alike _ _) hr hr2
    have e2 := Enc.inj e1
    rw [← e2] at ay
    exact ⟨w, H, I', rw', q w ay⟩
end

theorem reads_str {h : Heap} {u : Value} {x : Str} {as : List Addr} (hr : Reads h u (.str x) as) : as = [] := by
  cases hr
  rfl
theorem readsAll_strs {h : Heap} : ∀ {xs : List Str} {us : List Value} {as : List Addr}, ReadsAll h us (xs.map .str) as → as = []
  | [], _, _, hr => by
    generalize e : (List.map PyData.str []) = ds at hr
    cases hr with
    | nil => rfl
    | cons a b => simp at e
  | x :: xs, _, _, hr => by
    rw [List.map_cons] at hr
    generalize e : (PyData.str x :: List.map PyData.str xs) = ds at hr
    cases hr with
    | nil => simp at e
    | cons a b =>
      injection e with e1 e2
      subst e1
      subst e2
      rw [reads_str a, readsAll_strs b]
      rfl
theorem reads_pair {h : Heap} {u : Value} {p : Str × Str} {as : List Addr} (hr : Reads h u (enc p) as) : as = [] := by
  obtain ⟨a, b⟩ := p
  have e0 : enc (a, b) = PyData.tuple ([a, b].map PyData.str) := rfl
  rw [e0] at hr
  generalize e : PyData.tuple ([a, b].map PyData.str) = d at hr
  cases hr with
  | tuple _ _ _ h =>
    injection e with e
    subst e
    exact readsAll_strs h
  | _ => cases e
section
variable {X : Cx}
/-- sorted(d), d a dict whose keys are pairs of texts -/
def kP (p : Str × Str) : List Key := [.inr p.1, .inr p.2]
theorem kP_map (p : Str × Str) : (kP p).map kV = [V.str p.1, V.str p.2] := rfl
def rSrtD : List V → Hp → VK → Prop := fun vs H Q => ∃ (a : Addr) (kvs : List (List Key × V)) (ps : List (Str × Str)), vs = [.ref a] ∧ H a = some (.dT kvs) ∧ kvs.map (·.1) = ps.map kP ∧ (∀ p ∈ ps, PyData.strOk p.1 = true ∧ PyData.strOk p.2 = true) ∧
  ∀ p ws, H p = none → Each H ws (srt ps) → Q (.ref p) (upd H p (.lst ws))
theorem each_keys {H : Hp} {kvs : List (List Key × V)} {ks : List (List Key × Addr × Value)} (h : KT H kvs ks) : ∀ {ps : List (Str × Str)}, kvs.map (·.1) = ps.map kP → (∀ p ∈ ps, PyData.strOk p.1 = true ∧ PyData.strOk p.2 = true) →
    Each H (ks.map fun x => V.ref x.2.1) ps := by
  induction h with
  | nil =>
    intro ps e o
    cases ps with
    | nil => exact .nil
    | cons p ps => simp at e
  | cons h t ih =>
    intro ps e o
    cases ps with
    | nil => simp at e
    | cons p ps =>
      simp only [List.map_cons, List.cons.injEq] at e
      refine .cons ?_ (ih e.2 fun q hq => o q (List.mem_cons_of_mem _ hq))
      obtain ⟨h1, h2, h3⟩ := h
      rw [e.1] at h2
      exact at_pair h2 (at_str (o p List.mem_cons_self).1) (at_str (o p List.mem_cons_self).2)
theorem cr_srtD (hc : X.calm = true) (hu : X.A.units + 64 < cLine) : CallR X (.builtin "sorted") rSrtD := by
  intro pins s σ H vs us Q I r h
  obtain ⟨d, kvs, ps, rfl, hd, ek, eo, q⟩ := h
  rw [Vals.ref1 r]
  obtain ⟨z, hs, ks, pr, o, es, ep, ho, hx, hdt, he, hn⟩ := (show ObjOk X.prog X.w H s.heap d (.dT kvs) from I.hok _ _ hd)
  have l1 : es.size = ks.length := size_of_entries he
  have l2 : kvs.length = ks.length := Paired.length pr
  have ea := each_keys pr ek eo
  refine call_function_entry PyProof.Rows.kind_sorted PyProof.Rows.plain_sorted PyProof.Rows.entry_sorted (PyProof.Rows.args_sorted1 _) ?_
  unfold Builtin.«sorted»
  refine wpAny_bind (m := checkCount "sorted" 1 1 _) (wpAny_pure ?_)
  refine wpAny_bind (PySem.W.kdu_collect (A := X.A.in1) (kdl_raw hs hx hdt) (I.ok.hd hc) ho (by omega) fun h' tk acc k it => ?_)
  have eacc : acc.toList = (ks.map fun x => x.2.1).map Value.ref := by
    have hl : acc.toList.length = ks.length := by rw [Array.length_toList, it.1]; exact l1
    apply List.ext_getElem?
    intro j
    rw [List.map_map, List.getElem?_map]
    cases hj : acc.toList[j]? with
    | none =>
      have h1 := List.getElem?_eq_none_iff.mp hj
      rw [List.getElem?_eq_none (by omega)]
      all_goals rfl
    | some v =>
      obtain ⟨en, hen, hv⟩ := it.2 j v (by rw [← Array.getElem?_toList]; exact hj)
      have qe := entry_at he j
      rw [hen] at qe
      cases hb : ks[j]? with
      | none =>
        rw [hb] at qe
        exact nomatch (show some en = none from qe)
      | some b =>
        rw [hb] at qe
        have e2 : en = entryOfKey (tupleKind (mixKind X.prog X.w)) b := Option.some.inj qe
        rw [hv, e2]
        all_goals rfl
  have hlen : acc.toList.length ≤ sizeLine := by rw [eacc, List.length_map, List.length_map, ← l2]; exact z
  refine wpAny_bind (wpAny_newList ?_ hlen)
  have I' := I.kept (t' := tk) k
  have I2 : Inv X pins σ H { s with heap := h'.push { cls := .type "list", data := .seq acc.toList.toArray }, toks := tk } := I'.kept (t' := tk) fun b u e => Heap.get?_push_of_some _ e
  have rv : Vals (ks.map fun x => V.ref x.2.1) acc.toList := by
    rw [eacc]
    have e3 : (ks.map fun x => V.ref x.2.1) = (ks.map fun x => x.2.1).map V.ref := by rw [List.map_map]; rfl
    rw [e3]
    exact vals_refs _
  have e := bears_each rv ea
  have nf : ∀ b o, h'.get? b = some o → b ≠ h'.objs.size := fun b o e z => by
    rw [z] at e
    exact Nat.lt_irrefl _ (Heap.lt_size e)
  have hob : (h'.push { cls := .type "list", data := .seq acc.toList.toArray }).get? h'.objs.size = some (PyProof.Rows.seqObj "list" acc.toList.toArray 0) := Heap.get?_push_size _ rfl
  refine wpAny_bind (wpAny_holding ?_)
  refine wpAny_mono (Q := fun _ s' => EP X pins σ Q (.ref h'.objs.size) s') (E := X.xe) ?_ (fun _ s' x => ?_) fun _ _ e => e
  · refine PySem.W.list_sort_data (A := X.A.in1) (bs := ps) (R := Bears H) hob e (e.mono fun u p hb => ?_) (PySem.W.AllAlike.of Enc.alike) (sortable_enc ps) (by rw [← ea.length, List.length_map, ← l2]; exact z)
      (fun b _ => by
        have h1 := Enc.depth b
        have h2 : Enc.dep (Str × Str) = 1 := rfl
        show X.A.units + 1 + 1 + _ < _
        omega) fun out hout hb => ?_
    · obtain ⟨as, hr⟩ := reads_of I' hb
      refine ⟨as, PySem.W.reads_keeps (fun b o e => Heap.get?_push_of_some _ e) hr, fun hm => ?_⟩
      rw [reads_pair hr] at hm
      cases hm
    · obtain ⟨ws, r', e'⟩ := each_bears hb
      obtain ⟨ep', hat⟩ := PyProof.Rows.sortedHeap_at (vs := acc.toList) (out := out.toArray) hob
      have hlw : ws.length ≤ sizeLine := by
        rw [e'.length, List.length_mergeSort, ← ea.length, List.length_map, ← l2]
        exact z
      refine ⟨.ref _, upd H h'.objs.size (.lst ws), I'.laid (t' := tk) (fun b u e => ?_) (Nat.le_refl _) ⟨hlw, out, ep', r', hat⟩, rfl, q _ ws (I'.hok.fresh (Nat.le_refl _)) e'⟩
      rw [PyProof.Rows.sortedHeap_old (nf b u e) (by show b < (h'.push _).objs.size; rw [Heap.size_push]; exact Nat.lt_succ_of_lt (Heap.lt_size e))]
      exact Heap.get?_push_of_some _ e
  · exact wpAny_pure ⟨_, rfl, x⟩
end
end K73
set_option maxRecDepth 100000
set_option maxHeartbeats 4000000
namespace K73
open Enc (At enc)
open PySem L2 Evl

/-! ### defs by their names -/
/-- the name x stands for a def with the parameters ps that keeps the promise sp -/
def Has (P : Program) (w : World) (K : PySem.W.Frag) (mg : Str → Option Value) (base : Heap) (CX : CXT) (x : Str) (ps : List Str) (k : Nat) (sp : Sp) : Prop :=
  ∃ (f : Addr) (fd : FuncData), FnOk P w K mg base CX k f fd ps sp ∧ mg x = some (.ref f) ∧ PySem.W.keepIn K (.ref f) = true ∧ Binds K fd ps []
section
variable {X : Cx} {CX : CXT} {k j : Nat} {ps : List Str} {sp : Sp} {E : XK} {x : Str} {p pos : Pos} {e : Expr} {es : List Expr} {t : TA}
theorem Has.mono {P : Program} {w : World} {K : PySem.W.Frag} {mg : Str → Option Value} {base : Heap} (h : Has P w K mg base CX x ps k sp) (hk : k ≤ j) : Has P w K mg base CX x ps j sp :=
  let ⟨f, fd, F, a, b, c⟩ := h; ⟨f, fd, F.mono hk, a, b, c⟩
theorem pe_has (h : Has X.prog X.w X.K X.mg X.base CX x ps k sp) (hr : Room k X.A) (hx : Passes CX X E) (ha : PA X (e :: es) t) (hg : Gl X x := by rfl)
    (hdb : (x == ("__debug__" : Str)) = false := by decide) (he : starEach (e :: es) X.env = (false, eval e X.env) :: starEach es X.env := by rfl) (hpl : (backTo pos (starEach es X.env)).any (·.1) = false := by rfl) :
    PE X (.Call (.Name x p) (e :: es) [] pos) (tCall sp [] E t) := by
  obtain ⟨f, fd, F, m, kp, b⟩ := h
  exact pe_call F hr hg m kp b .nil hx ha hdb he hpl
end

/-! ### kinds, isinstance -/
inductive KN where
  | non | bl | int | str | lst | tup | dct
  deriving DecidableEq
def KN.nm : KN → String
  | .non => "NoneType" | .bl => "bool" | .int => "int" | .str => "str" | .lst => "list" | .tup => "tuple" | .dct => "dict"
/-- is a thing of the kind a one of the kind b -/
def KN.sub (a b : KN) : Bool := decide (a = b) || (decide (a = .bl) && decide (b = .int))
theorem kit_sub (a b : KN) (hb : b ≠ .non) : kitB a.nm b.nm = some (a.sub b) := by
  cases a <;> cases b <;> first | exact absurd rfl hb | decide +kernel
/-- the kind of a value -/
inductive Knd (H : Hp) : V → KN → Prop
  | non : Knd H .non .non
  | bl (b : Bool) : Knd H (.bl b) .bl
  | int (i : Int) : Knd H (.int i) .int
  | str (x : Str) : Knd H (.str x) .str
  | lst {a : Addr} {xs : List V} (e : H a = some (.lst xs)) : Knd H (.ref a) .lst
  | tup {a : Addr} {xs : List V} (e : H a = some (.tup xs)) : Knd H (.ref a) .tup
  | dK {a : Addr} {kvs : List (Key × V)} (e : H a = some (.dK kvs)) : Knd H (.ref a) .dct
  | dT {a : Addr} {kvs : List (List Key × V)} (e : H a = some (.dT kvs)) : Knd H (.ref a) .dct
theorem Knd.mono {H H' : Hp} {v : V} {k : KN} (e : Ex H H') (h : Knd H v k) : Knd H' v k := by
  cases h with
  | non => exact .non
  | bl b => exact .bl b
  | int i => exact .int i
  | str x => exact .str x
  | lst q => exact .lst (e _ _ q)
  | tup q => exact .tup (e _ _ q)
  | dK q => exact .dK (e _ _ q)
  | dT q => exact .dT (e _ _ q)
theorem Knd.ty {K : PySem.W.Frag} {H : Hp} {v : V} {k : KN} (h : Knd H v k) : TyX K H v (.type k.nm) := by
  cases h with
  | non => exact .base .non
  | bl b => exact .base (.bl b)
  | int i => exact .base (.int i)
  | str x => exact .base (.str x)
  | lst q => exact .base (.lst q)
  | tup q => exact .base (.tup q)
  | dK q => exact .base (.dK q)
  | dT q => exact .base (.dT q)
section
variable {X : Cx}
def rIs : List V → Hp → VK → Prop := fun xs H Q => ∃ (x : V) (a b : KN), xs = [x, .ty b.nm] ∧ b ≠ .non ∧ Knd H x a ∧ Q (.bl (a.sub b)) H
theorem call_is : CallR X (.builtin "isinstance") rIs := by
  intro pins s σ H xs us Q I r h
  obtain ⟨x, a, b, rfl, hb, hk, q⟩ := h
  exact call_isi pins s σ H _ us Q I r ⟨x, _, _, _, _, rfl, .ty _, hk.ty, kit_ty (kit_sub a b hb), q⟩
theorem kitAny_subs {K : PySem.W.Frag} (a : KN) : ∀ bs : List KN, (∀ b ∈ bs, b ≠ .non) → PySem.W.kitAny K (.type a.nm) (bs.map fun b => .type b.nm) = some (bs.any fun b => a.sub b)
  | [], _ => kitAny_nil
  | b :: bs, h => by
    rw [List.map_cons, List.any_cons]
    refine kitAny_cons (kit_ty (kit_sub a b (h b List.mem_cons_self))) (fun e => ?_) (fun e => ?_)
    · rw [e, Bool.false_or]
      exact kitAny_subs a bs fun c hc => h c (List.mem_cons_of_mem _ hc)
    · rw [e, Bool.true_or]
theorem clsVs : ∀ bs : List KN, Paired ClsV (bs.map fun b => V.ty b.nm) (bs.map fun b => Value.type b.nm)
  | [] => .nil
  | _ :: bs => .cons (.ty _) (clsVs bs)
def rIsT : List V → Hp → VK → Prop := fun xs H Q => ∃ (x : V) (tp : Addr) (a : KN) (bs : List KN), xs = [x, .ref tp] ∧ H tp = some (.tup (bs.map fun b => V.ty b.nm)) ∧ (∀ b ∈ bs, b ≠ .non) ∧ Knd H x a ∧ Q (.bl (bs.any fun b => a.sub b)) H
theorem call_isT : CallR X (.builtin "isinstance") rIsT := by
  intro pins s σ H xs us Q I r h
  obtain ⟨x, tp, a, bs, rfl, ht, hb, hk, q⟩ := h
  exact call_isiT pins s σ H _ us Q I r ⟨x, tp, _, _, _, _, rfl, ht, clsVs bs, hk.ty, kitAny_subs a bs hb, q⟩
/-- len(d) -/
def rLenD : List V → Hp → VK → Prop := fun xs H Q => ∃ (p : Addr) (n : Nat), xs = [.ref p] ∧ ((∃ kvs : List (Key × V), H p = some (.dK kvs) ∧ kvs.length = n) ∨ ∃ kvs : List (List Key × V), H p = some (.dT kvs) ∧ kvs.length = n) ∧ Q (.int ((n : Nat) : Int)) H
theorem call_len_dct : CallR X (.builtin "len") rLenD := by
  intro pins s σ H xs us Q I r h
  obtain ⟨p, n, rfl, hd, q⟩ := h
  rcases hd with ⟨kvs, hd, rfl⟩ | ⟨kvs, hd, rfl⟩
  · exact call_lenD pins s σ H _ us Q I r ⟨p, kvs, rfl, hd, q⟩
  · exact call_len_dT pins s σ H _ us Q I r ⟨p, kvs, rfl, hd, q⟩
end

/-! ### the text's errors: class X(DebateError) with __init__(self, thing): self.thing = thing -/
/-- what the constructor of an error of the class at C with the field f keeps -/
def spErr (f : Str) (C : Addr) : Sp := fun vs H Q _ => ∃ (a : Addr) (v : V), vs = [.ref a, v] ∧ H a = some (exo a C none) ∧
  ∀ dx, H dx = none → dx ≠ a → Q .non (upd (upd H dx (exd dx [(f, v)])) a (exo a C (some dx)))
structure HasErr (P : Program) (w : World) (K : PySem.W.Frag) (mg : Str → Option Value) (base : Heap) (x f : Str) (C : Addr) : Prop where
  ox : OexC K C
  mgC : mg x = some (.ref C)
  nof : PySem.W.findIn K (.ref C) f = some none
  ga : PySem.W.findIn K (.ref C) "__getattribute__" = some (some (.builtin "BaseException.__getattribute__"))
  gg : PySem.W.findIn K (.ref C) "__getattr__" = some none
  hd : PySem.W.hasDictIn K C = true
  ini : ∃ (fI : Addr) (fd : FuncData), PySem.W.findIn K (.ref C) "__init__" = some (some (.ref fI)) ∧ PySem.W.typeIn K (.ref fI) = some (.type "function") ∧ FnOk P w K mg base CX0 1 fI fd ["self", f] (spErr f C) ∧ Binds K fd ["self", f] []
theorem err_ok {H1 : Hp} {f : Str} {C : Addr} {v : V} {Q : XK} (q : ∀ d, H1 d = none → Q (.ref C) (some d) (upd H1 d (.xd [(f, v)]))) :
    [v].length ≤ 1000 ∧ ∀ a, H1 a = none → spErr f C (.ref a :: ([v] ++ [])) (upd H1 a (exo a C none))
      (fun u H2 => u = .non ∧ ∃ (d : Addr) (fs : List (Str × V)), H2 a = some (exo a C (some d)) ∧ H2 d = some (exd d fs) ∧ H1 d = none ∧ Q (.ref C) (some d) (upd (del H2 a) d (.xd fs))) (fun _ _ _ => False) := by
  refine ⟨(by show 1 ≤ 1000; omega), fun a ha => ⟨a, v, rfl, upd_same, fun dx hdx hne => ⟨rfl, dx, [(f, v)], upd_same, ?_, ?_, ?_⟩⟩⟩
  · rw [upd_ne hne, upd_same]
  · rw [upd_ne hne] at hdx
    exact hdx
  · have hd1 : H1 dx = none := by
      rw [upd_ne hne] at hdx
      exact hdx
    have e : upd (del (upd (upd (upd H1 a (exo a C none)) dx (exd dx [(f, v)])) a (exo a C (some dx))) a) dx (.xd [(f, v)]) = upd H1 dx (.xd [(f, v)]) := by
      funext b
      by_cases hb : b = dx
      · rw [hb, upd_same, upd_same]
      · rw [upd_ne hb, upd_ne hb]
        by_cases hba : b = a
        · rw [hba, del_same, ha]
        · rw [del_ne hba, upd_ne hba, upd_ne hb, upd_ne hba]
    rw [e]
    exact q dx hd1
section
variable {X : Cx} {W : WX} {x f : Str} {C : Addr} {k : Nat} {p pos pos2 : Pos} {e : Expr} {ta : TA}
theorem ps_raiseX (h : HasErr X.prog X.w X.K X.mg X.base x f C) (hr : Room 2 X.A) (tk : Takes X W) (ha : PA X [e] ta) (hc : X.calm = true := by rfl) (hg : Gl X x := by rfl)
    (hdb : (x == ("__debug__" : Str)) = false := by decide) (he : starEach (e :: []) X.env = (false, eval e X.env) :: starEach [] X.env := by rfl) (hpl : (backTo pos (starEach [] X.env)).any (·.1) = false := by rfl) :
    PS X (.Raise (some (.Call (.Name x p) [e] [] pos)) none pos2) (fun _ σ H => tMkO C (spErr f C) [] ta σ H fun cls d H' => W cls d σ H') := by
  obtain ⟨fI, fd, i1, i2, F, b⟩ := h.ini
  exact ps_raise hc tk (pmk_oex h.ox i1 i2 F hr b .nil pass0 hg h.mgC ha hdb he hpl)
end
end K73
set_option maxRecDepth 100000
set_option maxHeartbeats 4000000
namespace K73
open Enc (At enc)
open PySem L2 Evl
/-! ### the text by places -/
def top (i : Nat) : Stmt := PySem.Challenge.pw_objections_k73_whole_rises_and_falls.main.body.getD i (.Pass ⟨0, 0, 0, 0⟩)
def smallS : Str := "abcdefghijklmnopqrstuvwxyz"
def figS : Str := "0123456789"
/-- what the top has left, but for the defs -/
structure Txt (K : PySem.W.Frag) (mg : Str → Option Value) where
  (tS tF : Tok)
  wy : Addr
  g_SMALL : mg "SMALL" = some (.str smallS tS)
  g_FIGURES : mg "FIGURES" = some (.str figS tF)
  g_WAYS : mg "WAYS" = some (.ref wy)
  wyAt : ∃ (o : Obj) (its : Array Value) (n : Nat), K.lookup wy = some o ∧ o.cls = .type "tuple" ∧ o.data = .seq its n ∧ its.size ≤ sizeLine ∧ Vals (([("calm" : Str), ("held" : Str), ("whole" : Str), ("least" : Str), ("greatest" : Str), ("settled" : Str)] : List Str).map V.str) its.toList
  b_isinstance : mg "isinstance" = none
  b_len : mg "len" = none
  b_all : mg "all" = none
  b_any : mg "any" = none
  b_sum : mg "sum" = none
  b_sorted : mg "sorted" = none
  b_min : mg "min" = none
  b_list : mg "list" = none
  b_tuple : mg "tuple" = none
  b_dict : mg "dict" = none
  b_int : mg "int" = none
  b_str : mg "str" = none
  b_bool : mg "bool" = none
  b_range : mg "range" = none
  b_enumerate : mg "enumerate" = none
  b_zip : mg "zip" = none
/-- the name x stands for the def st of the text -/
def Def (K : PySem.W.Frag) (mg : Str → Option Value) (x : Str) (st : Stmt) : Prop := ∃ (f : Addr) (fd : FuncData), Fun K x x st f fd ∧ mg x = some (.ref f)
theorem has_no {P : Program} {w : World} {K : PySem.W.Frag} {mg : Str → Option Value} {base : Heap} {CX : CXT} {x : Str} {st : Stmt} {ps : List Str} {k : Nat} (d : Def K mg x st) (hb : ∀ {f : Addr} {fd : FuncData}, Fun K x x st f fd → Binds K fd ps []) : Has P w K mg base CX x ps k (fun _ _ _ _ => False) :=
  let ⟨f, fd, F, m⟩ := d; ⟨f, fd, ⟨fun _ _ _ _ h => h.elim, fun _ _ _ _ _ _ _ _ _ _ _ _ _ h => h.elim⟩, m, F.kp, hb F⟩
theorem hu64 {A : Around} {k : Nat} (hr : Room k A) : A.units + 64 < cLine := hr.units
theorem hu65 {A : Around} {k : Nat} (hr : Room k A) : A.units + 65 < cLine := by
  have := hr.un
  omega
end K73
set_option maxRecDepth 100000
set_option maxHeartbeats 4000000
namespace K73
open Enc (At enc)
open PySem L2 Evl
section
variable {X : Cx} {tg l : Expr} {tl : TE}
/-- what is walked: a list, or a tuple -/
def iSeq (K : PySem.W.Frag) (tl : TE) : TI := fun σ H R => tl σ H fun x H1 => ∃ a, x = .ref a ∧ ((∃ xs, SqL K H1 a xs ∧ R (Itl K a) H1) ∨ ∃ xs, SqT K H1 a xs ∧ R (Itt K a) H1)
theorem pi_seq (hl : PE X l tl) : PI X tg l (iSeq X.K tl) := by
  constructor
  intro pins s σ H R I h
  refine thn (hl.run pins s σ H _ I h) ?_
  rintro v s1 ⟨x, H1, I1, r1, a, rfl, q⟩
  cases r1
  have fresh : ∀ b ∈ [s1.heap.objs.size], FpOk X pins H1 b := fun b hb => by
    rw [List.mem_singleton.mp hb]
    exact I1.fpOk (Nat.le_refl _) (I1.hok.fresh (Nat.le_refl _))
  rcases q with ⟨xs, hq, q⟩ | ⟨xs, hq, q⟩
  · obtain ⟨its, _, p, _⟩ := I1.list hq
    exact wpAny_pyIter_list p.isList ⟨_, _, _, _, H1, rfl, I1.kept (t' := s1.toks) (fun _ _ e => Heap.get?_push_of_some _ e), turn_list a _, ⟨_, Heap.get?_push_size _ rfl, rfl, rfl⟩, fresh, q⟩
  · obtain ⟨its, _, p, _⟩ := I1.tuple hq
    exact wpAny_pyIter_tuple (show s1.heap.IsTuple a its.toArray from p) ⟨_, _, _, _, H1, rfl, I1.kept (t' := s1.toks) (fun _ _ e => Heap.get?_push_of_some _ e), turn_tuple a _, ⟨_, Heap.get?_push_size _ rfl, rfl, rfl⟩, fresh, q⟩
end
/-! ### relations between values and Lean things that stay when the heap grows -/
abbrev Rel (α : Type) := Hp → V → α → Prop
structure Stays {α : Type} (R : Rel α) : Prop where
  go : ∀ (H H' : Hp) (v : V) (x : α), Ex H H' → R H v x → R H' v x
theorem at_stays {α : Type} [Enc α] : Stays (At : Rel α) := ⟨fun _ _ _ _ e h => Enc.mono e h⟩
theorem Paired.stays {α : Type} {R : Rel α} (s : Stays R) {H H' : Hp} (e : Ex H H') : ∀ {vs : List V} {xs : List α}, Paired (R H) vs xs → Paired (R H') vs xs
  | _, _, .nil => .nil
  | _, _, .cons h t => .cons (s.go _ _ _ _ e h) (Paired.stays s e t)
theorem Paired.get {α β : Type} {F : α → β → Prop} : ∀ {vs : List α} {xs : List β} {i : Nat} {v : α}, Paired F vs xs → vs[i]? = some v → ∃ x, xs[i]? = some x ∧ F v x
  | _, _, _, _, .nil, e => by simp at e
  | _, _, 0, _, .cons r _, e => by simp at e; subst e; exact ⟨_, rfl, r⟩
  | _, _, i + 1, v, .cons _ t, e => by
    obtain ⟨u, h1, h2⟩ := Paired.get (i := i) (v := v) t (by simpa using e)
    exact ⟨u, by simpa using h1, h2⟩
theorem take_more {α : Type} : ∀ {l : List α} {i : Nat} {x : α}, l[i]? = some x → l.take (i + 1) = l.take i ++ [x]
  | [], i, x, h => by simp at h
  | a :: l, 0, x, h => by
    have e : a = x := Option.some.inj h
    subst e
    rfl
  | a :: l, i + 1, x, h => by
    have ih := take_more (l := l) (i := i) (x := x) h
    show a :: l.take (i + 1) = a :: l.take i ++ [x]
    rw [ih]
    rfl
/-! ### a heap without one object -/
theorem del_upd {H : Hp} {p : Addr} {o : HO} : del (upd H p o) p = del H p := by
  funext b
  unfold del upd
  split <;> rfl
theorem del_none {H : Hp} {p : Addr} (h : H p = none) : del H p = H := by
  funext b
  unfold del
  split
  · rename_i e
    rw [e, h]
  · rfl
theorem ex_del {H H' : Hp} {p : Addr} (e : Ex H H') (h : H p = none) : Ex H (del H' p) := fun b o q => by
  rw [del_ne (ne_of_none q h)]
  exact e b o q
theorem del_ex {H H' : Hp} {p : Addr} (e : Ex H H') : Ex (del H p) (del H' p) := fun b o q => by
  by_cases hb : b = p
  · rw [hb, del_same] at q
    cases q
  · rw [del_ne hb] at q ⊢
    exact e b o q
theorem del_sub {H : Hp} {p : Addr} : Ex (del H p) H := fun b o q => by
  by_cases hb : b = p
  · rw [hb, del_same] at q
    cases q
  · rwa [del_ne hb] at q
/-- the relation as it holds without the object at p -/
def Off {α : Type} (p : Addr) (R : Rel α) : Rel α := fun H v x => R (del H p) v x
theorem Stays.off {α : Type} {R : Rel α} (s : Stays R) (p : Addr) : Stays (Off p R) := ⟨fun _ _ _ _ e h => s.go _ _ _ _ (del_ex e) h⟩
theorem Off.on {α : Type} {R : Rel α} (s : Stays R) {p : Addr} {H : Hp} {v : V} {x : α} (h : Off p R H v x) : R H v x := s.go _ _ _ _ del_sub h
theorem Off.of {α : Type} {R : Rel α} (s : Stays R) {p : Addr} {H H' : Hp} {v : V} {x : α} (h : R H v x) (hp : H p = none) (e : Ex H H') : Off p R H' v x := s.go _ _ _ _ (ex_del e hp) h
theorem paired_imp {α β : Type} {F G : α → β → Prop} (h : ∀ a b, F a b → G a b) : ∀ {l : List α} {m : List β}, Paired F l m → Paired G l m
  | _, _, .nil => .nil
  | _, _, .cons r t => .cons (h _ _ r) (paired_imp h t)
/-- what is new from H to H' stands in G -/
def Grow (H H' G : Hp) : Prop := ∀ b o, H b = none → H' b = some o → G b = some o
/-! ### comprehensions whose turns change nothing that stood -/
/-- the list that is being made at D from the heap H: fresh there, all that stood in H stands, its items bear ys -/
structure Made {β : Type} (S : Rel β) (H : Hp) (D : Addr) (ys : List β) (H' : Hp) : Prop where
  new : H D = none
  ex : Ex H H'
  it : ∃ ws, H' D = some (.lst ws) ∧ Paired (S (del H' D)) ws ys
/-- a turn from the heap H (all that stood in H0 stands): the item not kept, or the element made; what bears it is new or stood in H0 -/
def Turn1 {β : Type} (S : Rel β) (r : Option β) (g : TG) (tt : TT) (te : TE) (ws : List Nat) (σ : L2.St) (v : V) (H0 H : Hp) : Prop :=
  ∀ (Kn : Hp → Prop) (Ky : V → Hp → Prop), (∀ H', Ex H H' → r = none → Kn H') → (∀ y z H', Ex H H' → r = some z → (∀ G, Ex H0 G → Grow H H' G → S G y z) → Ky y H') →
    g v (wipe σ ws) H fun σ2 H2 => wipe σ2 ws = wipe σ ws ∧ tt σ2 H2 fun b H3 => if b = true then te σ2 H3 fun y H4 => Ky y H4 else Kn H3
section
variable {K : PySem.W.Frag} {α β : Type} {R : Rel α} {S : Rel β} {a D : Addr} {vs : List V} {xs : List α} {g : TG} {tt : TT} {te : TE} {ws : List Nat} {σ : L2.St} {H1 : Hp} {Qd : Hp → Prop} {f : α → Option β}
theorem Made.nil (hD : H1 D = none) : Made S H1 D [] (upd H1 D (.lst [])) := ⟨hD, Ex.new hD, [], upd_same, .nil⟩
theorem Made.keep (st : Stays S) {ys : List β} {H' H2 : Hp} (m : Made S H1 D ys H') (e : Ex H' H2) : Made S H1 D ys H2 := by
  obtain ⟨hn, ex, acc, hD, hp⟩ := m
  exact ⟨hn, ex.trans e, acc, e _ _ hD, Paired.stays st (del_ex e) hp⟩
theorem Made.snoc (st : Stays S) {ys : List β} {H' H2 : Hp} {y : V} {z : β} (m : Made S H1 D ys H') (e : Ex H' H2) (s : S (del H2 D) y z) :
    ∃ acc, H2 D = some (.lst acc) ∧ acc.length = ys.length ∧ Made S H1 D (ys ++ [z]) (upd H2 D (.lst (acc ++ [y]))) := by
  obtain ⟨hn, ex, acc, hD, hp⟩ := m
  refine ⟨acc, e _ _ hD, hp.length, hn, Ex.mut (ex.trans e) hn, acc ++ [y], upd_same, ?_⟩
  rw [del_upd]
  exact Paired.snoc (Paired.stays st (del_ex e) hp) s
theorem filterMap_take {l : List α} {i : Nat} {x : α} (h : l[i]? = some x) : (l.take (i + 1)).filterMap f = (l.take i).filterMap f ++ (f x).toList := by
  rw [take_more h, List.filterMap_append]
  cases e : f x <;> simp [e]
/-- the list is done: it stands, new, its items bear what they should -/
theorem Made.out (st : Stays S) {ys : List β} {H' : Hp} (m : Made S H1 D ys H') : H1 D = none ∧ Ex H1 H' ∧ ∃ ws, H' D = some (.lst ws) ∧ Paired (Off D S H') ws ys := ⟨m.new, m.ex, m.it⟩
/-- a comprehension over whatever is walked: J, that yields a bearer of each of xs in turn -/
theorem lcG {J : It} (sr : Stays R) (st : Stays S) (hD : H1 D = none) (hz : xs.length ≤ 100000) (go : ∀ i H', Ex H1 H' → i < xs.length → J.go i H') (stop : ∀ H', Ex H1 H' → J.stop xs.length H')
    (yl : ∀ i H' v H2, Ex H1 H' → i < xs.length → J.yld i H' v H2 → Ex H' H2 ∧ ∃ x, xs[i]? = some x ∧ R H2 v x)
    (turn : ∀ v x H', Ex H1 H' → R H' v x → x ∈ xs → Turn1 S (f x) g tt te ws σ v H1 H') (k : ∀ H', Made S H1 D (xs.filterMap f) H' → Qd H') :
    ∃ W : Nat → Nat → Hp → Prop, (∃ m, W 0 m (upd H1 D (.lst []))) ∧ ∀ i m H, W i m H →
      (J.stop i H ∧ Qd H) ∨ (J.go i H ∧ ∃ Nx : Hp → Prop, (∀ H', Nx H' → ∃ m', m' < m ∧ W (i + 1) m' H') ∧ ∀ x H', J.yld i H x H' → g x (wipe σ ws) H' fun σ2 H2 => wipe σ2 ws = wipe σ ws ∧ tt σ2 H2 fun b H3 =>
        if b = true then te σ2 H3 fun y H4 => ∃ acc, H4 D = some (.lst acc) ∧ acc.length < sizeLine ∧ Nx (upd H4 D (.lst (acc ++ [y]))) else Nx H3) := by
  refine ⟨fun i m H' => m + i = xs.length ∧ Made S H1 D ((xs.take i).filterMap f) H', ⟨xs.length, rfl, Made.nil hD⟩, ?_⟩
  rintro i m H' ⟨hm, md⟩
  by_cases hi : i < xs.length
  · refine .inr ⟨go i H' md.ex hi, fun H2 => Made S H1 D ((xs.take (i + 1)).filterMap f) H2, fun H2 m2 => ⟨xs.length - (i + 1), by omega, by omega, m2⟩, fun v H2 hy => ?_⟩
    obtain ⟨e1, x, hx, rx⟩ := yl i H' v H2 md.ex hi hy
    have md2 := md.keep st e1
    have nD : ∃ u, H2 D = some u := let ⟨acc, h, _⟩ := md2.it; ⟨_, h⟩
    refine turn v x H2 md2.ex rx (List.mem_of_getElem? hx) _ _ (fun H3 e3 hn => ?_) (fun y z H3 e3 hs hG => ?_)
    · show Made S H1 D ((xs.take (i + 1)).filterMap f) H3
      rw [filterMap_take hx, hn, Option.toList_none, List.append_nil]
      exact md2.keep st e3
    · have sG := hG (del H3 D) (ex_del (md2.ex.trans e3) hD) fun b o hb ho => by
        obtain ⟨u, hu⟩ := nD
        rw [del_ne fun q => by rw [q, hu] at hb; cases hb]
        exact ho
      obtain ⟨acc, h1, h2, h3⟩ := md2.snoc st e3 sG
      refine ⟨acc, h1, ?_, ?_⟩
      · have h4 : ((xs.take i).filterMap f).length ≤ 100000 := Nat.le_trans (List.length_filterMap_le _ _) (by rw [List.length_take]; omega)
        have h5 : (100000 : Nat) < sizeLine := by decide
        omega
      · show Made S H1 D ((xs.take (i + 1)).filterMap f) _
        rw [filterMap_take hx, hs, Option.toList_some]
        exact h3
  · have e : i = xs.length := by omega
    subst e
    refine .inl ⟨stop H' md.ex, k H' ?_⟩
    rw [List.take_length] at md
    exact md
/-- over a list -/
theorem lcL (sr : Stays R) (st : Stays S) (hl : ∀ H', Ex H1 H' → SqL K H' a vs) (ev : Paired (R H1) vs xs) (hD : H1 D = none) (hz : xs.length ≤ 100000)
    (turn : ∀ v x H', Ex H1 H' → R H' v x → x ∈ xs → Turn1 S (f x) g tt te ws σ v H1 H') (k : ∀ H', Made S H1 D (xs.filterMap f) H' → Qd H') :
    ∃ W : Nat → Nat → Hp → Prop, (∃ m, W 0 m (upd H1 D (.lst []))) ∧ ∀ i m H, W i m H →
      ((Itl K a).stop i H ∧ Qd H) ∨ ((Itl K a).go i H ∧ ∃ Nx : Hp → Prop, (∀ H', Nx H' → ∃ m', m' < m ∧ W (i + 1) m' H') ∧ ∀ x H', (Itl K a).yld i H x H' → g x (wipe σ ws) H' fun σ2 H2 => wipe σ2 ws = wipe σ ws ∧ tt σ2 H2 fun b H3 =>
        if b = true then te σ2 H3 fun y H4 => ∃ acc, H4 D = some (.lst acc) ∧ acc.length < sizeLine ∧ Nx (upd H4 D (.lst (acc ++ [y]))) else Nx H3) := by
  have lenE : vs.length = xs.length := ev.length
  refine lcG sr st hD hz (fun i H' e hi => ⟨vs, vs[i], hl H' e, List.getElem?_eq_getElem (by omega)⟩) (fun H' e => ⟨vs, hl H' e, by omega⟩) (fun i H' v H2 e hi hy => ?_) turn k
  obtain ⟨rfl, hv⟩ := hy
  exact ⟨Ex.refl _, Paired.get (Paired.stays sr e ev) (hv vs (hl _ e))⟩
/-- over a tuple -/
theorem lcT (sr : Stays R) (st : Stays S) (hl : ∀ H', Ex H1 H' → SqT K H' a vs) (ev : Paired (R H1) vs xs) (hD : H1 D = none) (hz : xs.length ≤ 100000)
    (turn : ∀ v x H', Ex H1 H' → R H' v x → x ∈ xs → Turn1 S (f x) g tt te ws σ v H1 H') (k : ∀ H', Made S H1 D (xs.filterMap f) H' → Qd H') :
    ∃ W : Nat → Nat → Hp → Prop, (∃ m, W 0 m (upd H1 D (.lst []))) ∧ ∀ i m H, W i m H →
      ((Itt K a).stop i H ∧ Qd H) ∨ ((Itt K a).go i H ∧ ∃ Nx : Hp → Prop, (∀ H', Nx H' → ∃ m', m' < m ∧ W (i + 1) m' H') ∧ ∀ x H', (Itt K a).yld i H x H' → g x (wipe σ ws) H' fun σ2 H2 => wipe σ2 ws = wipe σ ws ∧ tt σ2 H2 fun b H3 =>
        if b = true then te σ2 H3 fun y H4 => ∃ acc, H4 D = some (.lst acc) ∧ acc.length < sizeLine ∧ Nx (upd H4 D (.lst (acc ++ [y]))) else Nx H3) := by
  have lenE : vs.length = xs.length := ev.length
  refine lcG sr st hD hz (fun i H' e hi => ⟨vs, vs[i], hl H' e, List.getElem?_eq_getElem (by omega)⟩) (fun H' e => ⟨vs, hl H' e, by omega⟩) (fun i H' v H2 e hi hy => ?_) turn k
  obtain ⟨rfl, hv⟩ := hy
  exact ⟨Ex.refl _, Paired.get (Paired.stays sr e ev) (hv vs (hl _ e))⟩
/-- the signs of a text -/
def SgR : Rel Nat := fun _ v c => v = .str ⟨#[c]⟩
theorem sg_stays : Stays SgR := ⟨fun _ _ _ _ _ h => h⟩
theorem lcS {x : Str} {f : Nat → Option β} (st : Stays S) (hD : H1 D = none) (hz : x.cps.size ≤ 100000)
    (turn : ∀ v c H', Ex H1 H' → SgR H' v c → c ∈ x.cps.toList → Turn1 S (f c) g tt te ws σ v H1 H') (k : ∀ H', Made S H1 D (x.cps.toList.filterMap f) H' → Qd H') :
    ∃ W : Nat → Nat → Hp → Prop, (∃ m, W 0 m (upd H1 D (.lst []))) ∧ ∀ i m H, W i m H →
      ((Its x).stop i H ∧ Qd H) ∨ ((Its x).go i H ∧ ∃ Nx : Hp → Prop, (∀ H', Nx H' → ∃ m', m' < m ∧ W (i + 1) m' H') ∧ ∀ y H', (Its x).yld i H y H' → g y (wipe σ ws) H' fun σ2 H2 => wipe σ2 ws = wipe σ ws ∧ tt σ2 H2 fun b H3 =>
        if b = true then te σ2 H3 fun y H4 => ∃ acc, H4 D = some (.lst acc) ∧ acc.length < sizeLine ∧ Nx (upd H4 D (.lst (acc ++ [y]))) else Nx H3) := by
  have lenE : x.cps.toList.length = x.cps.size := by simp
  refine lcG (xs := x.cps.toList) sg_stays st hD (by omega) (fun i H' e hi => by show i < x.cps.size; omega) (fun H' e => by show x.cps.size ≤ _; omega) (fun i H' v H2 e hi hy => ?_) turn k
  obtain ⟨rfl, c, hc, rfl⟩ := hy
  exact ⟨Ex.refl _, c, by rw [Array.getElem?_toList]; exact hc, rfl⟩
/-- the keys of a locked dict -/
theorem lcK {d : Addr} {o : Obj} {kvs : List (Key × V)} {f : Key → Option β} (st : Stays S) (hl : H1 d = some (.frz o (.dK kvs))) (hD : H1 D = none) (hz : kvs.length ≤ 100000)
    (turn : ∀ k H', Ex H1 H' → k ∈ kvs.map (·.1) → Turn1 S (f k) g tt te ws σ (kV k) H1 H') (k : ∀ H', Made S H1 D ((kvs.map (·.1)).filterMap f) H' → Qd H') :
    ∃ W : Nat → Nat → Hp → Prop, (∃ m, W 0 m (upd H1 D (.lst []))) ∧ ∀ i m H, W i m H →
      ((Itk d o kvs).stop i H ∧ Qd H) ∨ ((Itk d o kvs).go i H ∧ ∃ Nx : Hp → Prop, (∀ H', Nx H' → ∃ m', m' < m ∧ W (i + 1) m' H') ∧ ∀ y H', (Itk d o kvs).yld i H y H' → g y (wipe σ ws) H' fun σ2 H2 => wipe σ2 ws = wipe σ ws ∧ tt σ2 H2 fun b H3 =>
        if b = true then te σ2 H3 fun y H4 => ∃ acc, H4 D = some (.lst acc) ∧ acc.length < sizeLine ∧ Nx (upd H4 D (.lst (acc ++ [y]))) else Nx H3) := by
  have lenE : (kvs.map (·.1)).length = kvs.length := by simp
  refine lcG (R := fun _ v k => v = kV k) (xs := kvs.map (·.1)) ⟨fun _ _ _ _ _ h => h⟩ st hD (by omega) (fun i H' e hi => ⟨e _ _ hl, by omega⟩) (fun H' e => ⟨e _ _ hl, by omega⟩) (fun i H' v H2 e hi hy => ?_) (fun v k H' e hv hk => by subst hv; exact turn k H' e hk) k
  obtain ⟨rfl, c, u, hc, rfl⟩ := hy
  exact ⟨Ex.refl _, c, by rw [List.getElem?_map, hc]; rfl, rfl⟩
end
/-- a for over whatever is walked -/
theorem forG {J : It} {g : TG} {tb : TS} {D : Ends} {σ : L2.St} {H : Hp} (n : Nat) (Pv : Nat → L2.St → Hp → Prop) (h0 : Pv 0 σ H) (go : ∀ i σ H, i < n → Pv i σ H → J.go i H) (stop : ∀ σ H, Pv n σ H → J.stop n H)
    (hs : ∀ i σ H x H', i < n → Pv i σ H → J.yld i H x H' → g x σ H' fun σ2 H2 => tb { D with nx := Pv (i + 1), ct := Pv (i + 1), bk := D.nx } σ2 H2) (hd : ∀ σ H, Pv n σ H → D.nx σ H) :
    ∃ W : Nat → Nat → L2.St → Hp → Prop, (∃ m, W 0 m σ H) ∧ ∀ i m σ H, W i m σ H →
      (J.stop i H ∧ D.nx σ H) ∨ (J.go i H ∧ ∃ N : L2.St → Hp → Prop, (∀ σ' H', N σ' H' → ∃ m', m' < m ∧ W (i + 1) m' σ' H') ∧ ∀ x H', J.yld i H x H' → g x σ H' fun σ2 H2 => tb { D with nx := N, ct := N, bk := D.nx } σ2 H2) := by
  refine ⟨fun i m σ' H' => m + i = n ∧ Pv i σ' H', ⟨n, rfl, h0⟩, ?_⟩
  rintro i m σ' H' ⟨hm, hp⟩
  by_cases hi : i < n
  · exact .inr ⟨go i _ _ hi hp, Pv (i + 1), fun σ2 H2 p2 => ⟨n - (i + 1), by omega, by omega, p2⟩, fun x H2 hy => hs i _ _ x H2 hi hp hy⟩
  · have e : i = n := by omega
    subst e
    exact .inl ⟨stop _ _ hp, hd _ _ hp⟩
theorem blkOk_nest {N : List Str} {sc scope1 scope2 : Scope} {env : Env} {own : List (Str × Nat)} (h : env.scope = sc) (hb : blkC N (relS scope1 sc) scope2 own = true) : BlkOk N (relabel scope1 env) scope2 own := by
  subst h
  exact blkOk_by hb
/-! ### lists of truths -/
def BlR : Rel Bool := fun _ v b => v = .bl b
theorem bl_stays : Stays BlR := ⟨fun _ _ _ _ _ h => h⟩
theorem bls_eq {H : Hp} : ∀ {vs : List V} {bs : List Bool}, Paired (BlR H) vs bs → vs = bs.map V.bl
  | _, _, .nil => rfl
  | _, _, .cons h t => by
    have h1 : _ = _ := h
    rw [h1, bls_eq t]; rfl
/-- the values themselves -/
def VR : Rel V := fun _ v x => v = x
theorem v_stays : Stays VR := ⟨fun _ _ _ _ _ h => h⟩
theorem vr_self {H : Hp} : ∀ vs : List V, Paired (VR H) vs vs
  | [] => .nil
  | _ :: vs => .cons rfl (vr_self vs)
theorem vr_eq {H : Hp} : ∀ {vs xs : List V}, Paired (VR H) vs xs → vs = xs
  | _, _, .nil => rfl
  | _, _, .cons h t => by
    have h1 : _ = _ := h
    rw [h1, vr_eq t]
end K73
set_option maxRecDepth 100000
set_option maxHeartbeats 4000000
namespace K73
open Enc (At enc)
open PySem PySem.Spec PyProof.Rows L2 Evl
open Sem (wp)
open AutoSeq1 (wpAny_loadPart')

/-- the items of the tuple at a with their numbers, in new pairs -/
def IteT (K : PySem.W.Frag) (a : Addr) : It where
  go := fun i H => ∃ (xs : List V) (x : V), SqT K H a xs ∧ xs[i]? = some x
  yld := fun i H v H' => ∃ T x, v = .ref T ∧ H T = none ∧ H' = upd H T (.tup [.int ((i : Nat) : Int), x]) ∧ ∀ xs, SqT K H a xs → xs[i]? = some x
  stop := fun i H => ∃ xs : List V, SqT K H a xs ∧ xs.length ≤ i
def iEnumS (K : PySem.W.Frag) (ta : TA) : TI := fun σ H R => ta σ H fun vs H1 => ∃ a, vs = [.ref a] ∧ ((∃ xs, SqL K H1 a xs ∧ R (Ite K a) H1) ∨ ∃ xs, SqT K H1 a xs ∧ R (IteT K a) H1)
/-- enumerate made over a tuple: what its maker does -/
theorem meets_enum_tup (l : Addr) (items : Array Value) (n : Nat) (dct : Option Addr) (sl : Array (Option Value)) :
    Meets (Builtin.«enumerate.__new__» ⟨[.type "enumerate", .ref l], []⟩) (fun _ R s => s.heap.get? l = some { cls := .type "tuple", dict := dct, data := .seq items n, slots := sl } ∧
      R (.ok (.ret (.ref (s.heap.push { cls := .type "tuple_iterator", data := .fields #[.ref l, .int 0 0] }).objs.size)))
        { s with heap := (s.heap.push { cls := .type "tuple_iterator", data := .fields #[.ref l, .int 0 0] }).push { cls := .type "enumerate", data := .fields #[.none, .bool false, .ref s.heap.objs.size, rawInt 0, .none, .none] } }) :=
  .of_wp fun prog w A R s h => by
    obtain ⟨hp, g, d, tk, os⟩ := s
    obtain ⟨hl, h⟩ := h
    have hsub := sub_enumerate
    have hT : Heap.IsTuple (Shared.heap ⟨hp, g, d, tk, os⟩) l items := ⟨_, hl, rfl, n, rfl⟩
    wp_walk using wpAny_loadPart' hl
    refine wpAny_stack_any fun st => wpAny_pure ?_
    split
    · rename_i c _ _ _ _ _
      cases (c == Value.type "enumerate")
      all_goals
        wp_walk using wpAny_loadPart' hl, wpAny_pyIter_tuple hT
        exact ⟨_, rfl, h⟩
    · wp_walk using wpAny_loadPart' hl, wpAny_pyIter_tuple hT
      exact ⟨_, rfl, h⟩

theorem call_enum_tup {prog : Program} {w : World} {A : Around} {E : Value → Shared → Prop} {s : Shared} {l : Addr} {items : Array Value} {Q : Value → Shared → Prop} (hL : s.heap.IsTuple l items)
    (h : ∀ h', IsEnum h' (s.heap.objs.size + 1) s.heap.objs.size 0 .none → h'.IsTupleIter s.heap.objs.size l 0 → h'.IsTuple l items →
      (∀ b o, s.heap.get? b = some o → h'.get? b = some o) → Q (.ref (s.heap.objs.size + 1)) { s with heap := h' }) :
    wpAny (model prog w) A (call (.type "enumerate") [.ref l]) Q E s := by
  obtain ⟨⟨c, dct, dt, sl⟩, hl, hc, n, hd⟩ := hL
  replace hc : c = .type "tuple" := hc
  replace hd : dt = .seq items n := hd
  subst hc hd
  refine callType_new F.called_enumerate (by decide) (F.typeCall_enumerate_1 _) (F.newCall_enumerate_1 _) (fun obj => F.args_object_init_2 obj _) F.entry_enumerate_new
    (meets_enum_tup l items n dct sl) ⟨hl, ?_⟩
  generalize hI : ({ cls := .type "tuple_iterator", data := .fields #[.ref l, .int 0 0] } : Obj) = oi
  have hz : (s.heap.push oi).objs.size = s.heap.objs.size + 1 := Heap.size_push ..
  show _ ∧ _
  rw [hz]
  have he := Heap.get?_push_size (s.heap.push oi) (o := { cls := .type "enumerate", data := .fields #[.none, .bool false, .ref s.heap.objs.size, rawInt 0, .none, .none] }) rfl
  rw [hz] at he
  have hk : ∀ b o, s.heap.get? b = some o → ((s.heap.push oi).push { cls := .type "enumerate", data := .fields #[.none, .bool false, .ref s.heap.objs.size, rawInt 0, .none, .none] }).get? b = some o := fun b o x => Heap.get?_push_of_some _ (Heap.get?_push_of_some _ x)
  refine ⟨⟨_, he, rfl⟩, h _ he ⟨oi, Heap.get?_push_of_some _ (Heap.get?_push_size _ (by rw [← hI]; rfl)), by rw [← hI], by rw [← hI]; rfl⟩ ⟨_, hk _ _ hl, rfl, n, rfl⟩ hk⟩

theorem turn_enumT {P : Program} {w : World} {K : PySem.W.Frag} {elts : List Expr} {kk : Nat} {tpos : Pos} (a e it : Addr) (items : Array Value) :
    Turn P w K (.Tuple elts kk tpos) (IteT K a) [e, it] e (fun i h => (∃ old, IsEnum h e it ((i : Nat) : Int) old) ∧ h.IsTupleIter it a i ∧ e ≠ it ∧ a ≠ e ∧ a ≠ it) where
  mem := by simp
  obj := fun i h st b hb => by
    obtain ⟨⟨old, he⟩, ⟨o, ho, _, hd⟩, _⟩ := st
    rcases (show b = e ∨ b = it by simpa using hb) with z | z
    · exact z ▸ ⟨_, he, fun v q => nomatch q⟩
    · exact z ▸ ⟨o, ho, fun v q => by rw [hd] at q; cases q⟩
  keep := fun i h h' ⟨⟨old, he⟩, hi, r⟩ k => ⟨⟨old, k e (by simp) _ he⟩, hi.at fun o q => k it (by simp) o q, r⟩
  item := by
    intro X hP hw hK hc i pins s σ H E I hf st hg
    subst hP hw hK
    obtain ⟨⟨old, he⟩, hit, hne, hae, hai⟩ := st
    obtain ⟨xs, x, hq, hx⟩ := hg
    obtain ⟨its, rv, p, hz⟩ := I.tuple hq
    obtain ⟨u, hu, ru⟩ := rv.get hx
    have hel : e < s.heap.objs.size := Heap.lt_size he
    have hil : it < s.heap.objs.size := by obtain ⟨_, q, _⟩ := hit; exact Heap.lt_size q
    have hi : i < its.toArray.size := by
      have := (List.getElem?_eq_some_iff.mp hu).1
      simpa using this
    refine wpAny_pyNext_enum_itemD (Draws.tuple (show X.A.in1.handled = none from I.ok.hd hc) it a hai its.toArray) he ⟨hit, p⟩ hi hne (by simp [hne, Ne.symm hae]) fun v h' tk hv ho st' hT hsz hk => ?_
    obtain rfl : u = v := by
      have hv' : its[i]? = some v := by simpa using hv
      rw [hu] at hv'; exact Option.some.inj hv'
    refine ⟨_, rfl, wpAny_letOwnedTupleGo_enum (s := { s with heap := h', toks := tk + 1 }) ho fun h'' he' sb => ?_⟩
    have hT2 : h''.get? s.heap.objs.size = some { cls := .type "tuple", data := .seq #[.int i tk, u] } := (sb.2 _ (Nat.ne_of_gt hel)).trans hT
    have new : ObjOk X.prog X.w (upd H s.heap.objs.size (.tup [.int (i : Nat), x])) h'' s.heap.objs.size (.tup [.int (i : Nat), x]) :=
      ⟨by show 2 ≤ sizeLine; decide, [.int i tk, u], .cons ⟨_, rfl⟩ (.cons ru .nil), ⟨_, hT2, rfl, _, rfl⟩⟩
    have I1 : Inv X pins σ (upd H s.heap.objs.size (.tup [.int (i : Nat), x])) { s with heap := h'', toks := tk + 1 } :=
      I.turnedNew (ch := [e, it]) (fun b ob hb q => (sb.2 b (fun z => hb (by simp [z]))).trans (hk b ob (fun z => hb (by simp [z])) (fun z => hb (by simp [z])) q)) hf (Nat.le_refl _) new
    refine ⟨.ref s.heap.objs.size, _, I1, rfl, ⟨_, x, rfl, I.hok.fresh (Nat.le_refl _), rfl, fun ys hy => by rw [I.tuple_inj hy hq]; exact hx⟩, ⟨⟨u, ?_⟩, st'.1.at fun o q => (sb.2 it (Ne.symm hne)).trans q, hne, hae, hai⟩, fun b hb => ?_⟩
    · have e1 : ((i + 1 : Nat) : Int) = (i : Int) + 1 := by omega
      rw [e1]; exact he'
    · have hb' : b < s.heap.objs.size := by
        rcases (show b = e ∨ b = it by simpa using hb) with z | z
        · rw [z]; exact hel
        · rw [z]; exact hil
      rw [upd_ne (Nat.ne_of_lt hb')]
      exact (hf b hb).1
  done := by
    intro X hP hw hK hc i pins s σ H E I hf st hg
    subst hP hw hK
    obtain ⟨⟨old, he⟩, hit, hne, hae, hai⟩ := st
    obtain ⟨xs, hq, hx⟩ := hg
    obtain ⟨its, rv, p, hz⟩ := I.tuple hq
    obtain ⟨f0, f1, f2, f3, f4, f5⟩ := hf it (by simp)
    have hl := rv.length
    have hn : its.toArray[i]? = none := by simp; omega
    have D : Draws X.prog X.w X.A.in1 it [it, a] i (fun _ _ => True) (fun j h => j = i ∧ h.IsTupleIter it a i ∧ h.IsTuple a its.toArray) :=
      { live := fun _ _ st => let ⟨o, ho, _⟩ := st.2.1; ⟨o, ho⟩
        frame := fun _ _ _ st hk => ⟨st.1, st.2.1.at fun o q => hk it (by simp) o q, st.2.2.at fun o q => hk a (by simp) o q⟩
        item := fun j s Q E hj st hQ => absurd st.1 (Nat.ne_of_lt hj)
        done := fun s Q E st hE => RZ.nextOf_tuple_end (show X.A.in1.handled = none from I.ok.hd hc) st.2.1 st.2.2 hn hE }
    exact wpAny_pyNext_enum_endD D he ⟨rfl, hit, p⟩ fun h' eb => ⟨rfl, I.turned (t' := s.toks) (fun b o hb q => eb b o hb q) f0 f1 f3 f4 f5⟩
  self := fun A i s Q E st h => let ⟨⟨_, he⟩, _⟩ := st; wpAny_pyIter_enum he h

theorem pi_enumS {X : Cx} {e : Expr} {ta : TA} {p pos tpos : Pos} {elts : List Expr} {kk : Nat} (hg : Gl X "enumerate") (hm : X.mg "enumerate" = none) (ha : PA X [e] ta) (hs : starEach [e] X.env = [(false, eval e X.env)] := by rfl) :
    PI X (.Tuple elts kk tpos) (.Call (.Name "enumerate" p) [e] [] pos) (iEnumS X.K ta) := by
  refine ⟨fun pins s σ H R I h => ?_⟩
  refine Call_ (ld_blt I hg hm boot_enumerate (PyProof.Rows.callWith_type1 (thn (ha.run pos pins s σ H _ I h) fun us s1 ⟨vs, H1, I1, r1, q1⟩ => ?_) hs rfl))
  obtain ⟨a, ex, q1⟩ := q1
  subst ex
  cases r1 with
  | cons r rr =>
    cases rr
    cases r
    have fr : ∀ b, b ∈ [s1.heap.objs.size + 1, s1.heap.objs.size] → FpOk X pins H1 b := fun b hb => by
      have hle : s1.heap.objs.size ≤ b := by
        rcases (show b = s1.heap.objs.size + 1 ∨ b = s1.heap.objs.size by simpa using hb) with z | z
        · rw [z]; exact Nat.le_add_right _ _
        · rw [z]; exact Nat.le_refl _
      exact I1.fpOk hle (I1.hok.fresh hle)
    rcases q1 with ⟨xs, hq, q⟩ | ⟨xs, hq, q⟩
    · obtain ⟨its, rv, p', hz⟩ := I1.list hq
      refine call_enumerate_list p'.isList fun h' he hit hsz hk => wpAny_pyIter_enum he ?_
      exact ⟨s1.heap.objs.size + 1, [s1.heap.objs.size + 1, s1.heap.objs.size], _, _, H1, rfl, I1.kept (t' := s1.toks) hk, turn_enum a _ s1.heap.objs.size, ⟨⟨.none, he⟩, hit, Nat.succ_ne_self _⟩, fr, q⟩
    · obtain ⟨its, rv, p', hz⟩ := I1.tuple hq
      have hal : a < s1.heap.objs.size := by obtain ⟨_, y, _⟩ := id p'; exact Heap.lt_size y
      refine call_enum_tup (show s1.heap.IsTuple a its.toArray from p') fun h' he hit ht hk => wpAny_pyIter_enum he ?_
      exact ⟨s1.heap.objs.size + 1, [s1.heap.objs.size + 1, s1.heap.objs.size], _, _, H1, rfl, I1.kept (t' := s1.toks) hk, turn_enumT a _ s1.heap.objs.size its.toArray, ⟨⟨.none, he⟩, hit, Nat.succ_ne_self _, Nat.ne_of_lt (Nat.lt_succ_of_lt hal), Nat.ne_of_lt hal⟩, fr, q⟩
end K73
set_option maxRecDepth 100000
set_option maxHeartbeats 4000000
namespace K73
open Enc (At enc)
open PySem PySem.Spec PyProof.Rows L2 Evl
/-! ### a dict comprehension with two fors -/
abbrev okAll (env : Env) (ifs : List Expr) : Sem Bool := forIn ifs true fun c r => if r = true then do let ok ← isTrue c env (eval c env); pure (ForInStep.yield ok) else pure (ForInStep.yield r)
section
variable {prog : Program} {w : World} {A : Around} {R : Result → Shared → Prop} {s : Shared} {kx vx : Expr} {gens : List Comprehension} {scope : Scope} {gpos p : Pos} {d : Nat} {tg : Expr} {ifs : List Expr} {it acc : Value} {env : Env} {body : Sem Unit}
/-- one of its loops, whatever its turns do in the end -/
theorem dloop (ht : compTurn (.DictComp kx vx gens scope gpos) d it acc env = (do
      standAt p
      match ← pyNext it with
      | none => pure (.done .next)
      | some v =>
        letOwnedTupleGo tg it v
        assign tg env v
        let ok ← okAll env ifs
        if ok then body
        again (.compLoop (.DictComp kx vx gens scope gpos) d it acc env)))
    (J : Nat → Shared → Prop)
    (turn : ∀ n s, J n s → wpAny (model prog w) A (pyNext it) (fun r s1 => match r with
      | none => R (.ok .next) s1
      | some v => wpAny (model prog w) A (letOwnedTupleGo tg it v) (fun _ s2 => wpAny (model prog w) A (assign tg env v) (fun _ s3 => wpAny (model prog w) A (okAll env ifs)
          (fun ok s4 => if ok = true then wpAny (model prog w) A body (fun _ s5 => ∃ m, m < n ∧ J m s5) (fun _ _ => False) s4 else ∃ m, m < n ∧ J m s4) (fun _ _ => False) s3) (fun _ _ => False) s2) (fun _ _ => False) s1) (fun _ _ => False) s)
    (n : Nat) (h : J n s) : codeAny (model prog w) A (.compLoop (.DictComp kx vx gens scope gpos) d it acc env) R s := by
  have up : ∀ {α : Type} {t : Sem α} {Q Q' : α → Shared → Prop} {E : Value → Shared → Prop} {s : Shared}, wpAny (model prog w) A t Q (fun _ _ => False) s → (∀ a s, Q a s → Q' a s) → wpAny (model prog w) A t Q' E s := fun h hQ => wpAny_mono h hQ fun _ _ z => z.elim
  refine codeAny_loop rfl J (fun n s hJ => ?_) n h
  show wpAny _ A ((compTurn (.DictComp kx vx gens scope gpos) d it acc env).onRaise _) _ _ s
  refine wpAny_noted ?_
  rw [ht]
  refine wpAny_bind (wpAny_standAt (wpAny_bind (up (turn n s hJ) fun r s1 h1 => ?_)))
  match r, h1 with
  | none, h1 => exact wpAny_pure h1
  | some v, h1 =>
    refine wpAny_bind (up h1 fun _ s2 h2 => wpAny_bind (up h2 fun _ s3 h3 => wpAny_bind (up h3 fun ok s4 h4 => ?_)))
    match ok, h4 with
    | false, h4 => exact wpAny_pure ⟨rfl, h4⟩
    | true, h4 => exact wpAny_bind (up h4 fun _ s5 h5 => wpAny_pure ⟨rfl, h5⟩)
/-- the start of one of its loops -/
theorem dstart (h0 : codeAny (model prog w) A (.compLoop (.DictComp kx vx [⟨tg, iter0, ifs0, 0⟩, ⟨tg1, iter1, ifs1, 0⟩] scope gpos) 1 it acc env) R s)
    (h : wpAny (model prog w) A (pyIter it) (fun it' s' => codeAny (model prog w) A (.compLoop (.DictComp kx vx [⟨tg, iter0, ifs0, 0⟩, ⟨tg1, iter1, ifs1, 0⟩] scope gpos) 1 it' acc env) R s') (notedBy (model prog w) A env fun x s' => R (.error x) s') s) :
    codeAny (model prog w) A (.compStart (.DictComp kx vx [⟨tg, iter0, ifs0, 0⟩, ⟨tg1, iter1, ifs1, 0⟩] scope gpos) 1 it acc env) R s := by
  refine codeAny_of_tree ?_
  show wpAny _ A ((compStart (.DictComp kx vx [⟨tg, iter0, ifs0, 0⟩, ⟨tg1, iter1, ifs1, 0⟩] scope gpos) 1 it acc env).onRaise _) _ _ s
  refine wpAny_notedAt ?_
  unfold compStart
  show wpAny _ A (ask >>= _) _ _ s
  refine wpAny_bind (wpAny_askSetting (wpAny_ite ?_))
  split
  · first
      | exact wpAny_pure ⟨rfl, h0⟩
      | exact wpAny_bind (wpAny_pure (wpAny_pure ⟨rfl, h0⟩))
  · refine wpAny_bind (wpAny_rule ?_)
    first
      | exact wpAny_bind (wpAny_standAt (wpAny_bind (wpAny_mono h (fun it' s' q => wpAny_pure ⟨rfl, q⟩) fun _ _ q => q)))
      | (show wpAny _ A (standAt iter1.pos >>= _) _ _ s
         exact wpAny_bind (wpAny_standAt (wpAny_bind (wpAny_mono h (fun it' s' q => wpAny_pure ⟨rfl, q⟩) fun _ _ q => q))))
end
/-- a loop over what the turns of J yield, in the block's own context Y -/
theorem dwalk {Y : Cx} {R : Result → Shared → Prop} {kx vx : Expr} {gens : List Comprehension} {scope : Scope} {gpos p : Pos} {d : Nat} {tg : Expr} {ifs : List Expr} {it : Addr} {acc : Value} {body : Sem Unit} {g : TG} {tt : TT} {fp : List Addr} {tn : Nat → Heap → Prop} {J : It} {pins : List (Addr × Obj)} {σ : L2.St} {vs : List Nat} {B : L2.St → Hp → (Hp → Prop) → Prop} {Fin : Hp → Prop}
    {W : Nat → Nat → Hp → Prop} {m0 : Nat} {H : Hp} {s : Shared} (hc : Y.calm = true)
    (ht : compTurn (.DictComp kx vx gens scope gpos) d (.ref it) acc Y.env = (do
      standAt p
      match ← pyNext (.ref it) with
      | none => pure (.done .next)
      | some v =>
        letOwnedTupleGo tg (.ref it) v
        assign tg Y.env v
        let ok ← okAll Y.env ifs
        if ok then body
        again (.compLoop (.DictComp kx vx gens scope gpos) d (.ref it) acc Y.env)))
    (T : Turn Y.prog Y.w Y.K tg J fp it tn) (pg : PG Y tg g) (pt : PTs Y ifs tt) (hx : Y.xe = fun _ _ => False)
    (stat : ∀ {H' : Hp} {s' : Shared}, Inv Y pins (wipe σ vs) H' s' → (∀ b ∈ fp, H' b = none) → ∀ b ∈ fp, FpOk Y pins H' b)
    (I : Inv Y pins (wipe σ vs) H s) (t0 : tn 0 s.heap) (n0 : ∀ b ∈ fp, H b = none) (w0 : W 0 m0 H)
    (turn : ∀ i m H, W i m H → (J.stop i H ∧ Fin H) ∨ (J.go i H ∧ ∃ Nx : Hp → Prop, (∀ H', Nx H' → ∃ m', m' < m ∧ W (i + 1) m' H') ∧ ∀ x H', J.yld i H x H' → g x (wipe σ vs) H' fun σ2 H2 => wipe σ2 vs = wipe σ vs ∧ tt σ2 H2 fun b H3 => if b = true then B σ2 H3 Nx else Nx H3))
    (hbody : ∀ (pl : List (Addr × Obj)) (σ2 : L2.St) (H2 : Hp) (s2 : Shared) (Nx : Hp → Prop), wipe σ2 vs = wipe σ vs → Inv Y (pins ++ pl) σ2 H2 s2 → B σ2 H2 Nx → wpAny (model Y.prog Y.w) Y.A body (fun _ s3 => ∃ σ3 H3, Inv Y (pins ++ pl) σ3 H3 s3 ∧ wipe σ3 vs = wipe σ vs ∧ Nx H3) (fun _ _ => False) s2)
    (fin : ∀ H' s', Inv Y pins (wipe σ vs) H' s' → Fin H' → R (.ok .next) s') :
    codeAny (model Y.prog Y.w) Y.A (.compLoop (.DictComp kx vx gens scope gpos) d (.ref it) acc Y.env) R s := by
  refine dloop ht (fun m s' => ∃ i H', Inv Y pins (wipe σ vs) H' s' ∧ tn i s'.heap ∧ (∀ b ∈ fp, H' b = none) ∧ W i m H') ?_ m0 ⟨0, H, I, t0, n0, w0⟩
  rintro m s1 ⟨i, H1, I1, t1, n1, w1⟩
  rcases turn i m H1 w1 with ⟨stop, q⟩ | ⟨go, Nx, less, step⟩
  · refine thnF (T.done Y rfl rfl rfl hc i pins s1 _ H1 (fun _ _ => False) I1 (stat I1 n1) t1 stop) ?_
    rintro r s2 ⟨rfl, I2⟩
    exact fin H1 s2 I2 q
  · refine thnF (T.item Y rfl rfl rfl hc i pins s1 _ H1 (fun _ _ => False) I1 (stat I1 n1) t1 go) ?_
    rintro r s2 ⟨u, rfl, q2⟩
    refine thnF q2 ?_
    rintro _ s3 ⟨x, H3, I3, r3, y3, t3, n3⟩
    have I3p := I3.pinned (stat I3 n3) (T.obj _ _ t3)
    have back : ∀ {σ' : L2.St} {H' : Hp} {s' : Shared}, Inv Y (pins ++ pinsAt fp s3.heap) σ' H' s' → wipe σ' vs = wipe σ vs → Nx H' → ∃ m', m' < m ∧ ∃ i H', Inv Y pins (wipe σ vs) H' s' ∧ tn i s'.heap ∧ (∀ b ∈ fp, H' b = none) ∧ W i m' H' := fun {σ' H' s'} I' hw nx => by
      obtain ⟨m', lt, w'⟩ := less H' nx
      have pin' : ∀ b ∈ fp, ∀ o, s3.heap.get? b = some o → s'.heap.get? b = some o ∧ H' b = none := fun b hb o e =>
        let z := I'.pin (b, o) (List.mem_append_right _ (List.mem_append_right _ (mem_pinsAt hb e)))
        ⟨z.1, z.2.1⟩
      refine ⟨m', lt, i + 1, H', I'.unpinned.weak (by rw [← hw, wipe_length]) (fun j v e => by rw [← hw] at e; exact (wipe_some e).1), T.keep _ _ _ t3 fun b hb o e => (pin' b hb o e).1, fun b hb => ?_, w'⟩
      obtain ⟨o, e, _⟩ := T.obj _ _ t3 b hb
      exact (pin' b hb o e).2
    refine thnF (show wpAny _ Y.A (assign tg Y.env u) _ (fun _ _ => False) s3 from hx ▸ pg.run _ s3 _ H3 x u _ I3p r3 (step x H3 y3)) ?_
    rintro _ s4 ⟨σ4, H4, I4, hw4, q4⟩
    refine thnF (show wpAny _ Y.A (okAll Y.env ifs) _ (fun _ _ => False) s4 from hx ▸ pt.run _ s4 σ4 H4 _ I4 q4) ?_
    rintro b s5 ⟨H5, I5, q5⟩
    cases b with
    | false =>
      rw [if_neg Bool.false_ne_true] at q5 ⊢
      exact back I5 hw4 q5
    | true =>
      rw [if_pos rfl] at q5 ⊢
      refine thnF (hbody _ σ4 H5 s5 Nx hw4 I5 q5) ?_
      rintro _ s6 ⟨σ6, H6, I6, hw6, nx⟩
      exact back I6 hw6 nx
section
variable {kx vx tg iter tg1 iter1 : Expr} {ifs ifs1 : List Expr} {scope : Scope} {pos : Pos} {it : Value} {D : Addr} {env : Env}
/-- what a turn of the outer for does: the inner for -/
abbrev bodyO (e : Expr) (iter1 : Expr) (acc : Value) (env : Env) : Sem Unit := do
  let x ← eval iter1 env
  standAt iter1.pos
  let x ← foldedSetIterable iter1 env x
  let _ ← runOwn (.compStart e 1 (← holding [x] (pyIter x)) acc env) env
  pure ()
/-- what a turn of the inner for does -/
abbrev bodyI (kx vx : Expr) (D : Addr) (env : Env) : Sem Unit := do
  let kv ← eval kx env
  let vv ← holding [kv] (eval vx env)
  standAt { kx.pos with endLine := vx.pos.endLine, endCol := vx.pos.endCol }
  holding [kv, vv] (dictSet D kv vv)
theorem turnI : compTurn (.DictComp kx vx [⟨tg, iter, ifs, 0⟩, ⟨tg1, iter1, ifs1, 0⟩] scope pos) 1 it (.ref D) env = (do
      standAt iter1.pos
      match ← pyNext it with
      | none => pure (.done .next)
      | some v =>
        letOwnedTupleGo tg1 it v
        assign tg1 env v
        let ok ← okAll env ifs1
        if ok then bodyI kx vx D env
        again (.compLoop (.DictComp kx vx [⟨tg, iter, ifs, 0⟩, ⟨tg1, iter1, ifs1, 0⟩] scope pos) 1 it (.ref D) env)) := by rfl
theorem turnO : compTurn (.DictComp kx vx [⟨tg, iter, ifs, 0⟩, ⟨tg1, iter1, ifs1, 0⟩] scope pos) 0 it (.ref D) env = (do
      standAt iter.pos
      match ← pyNext it with
      | none => pure (.done .next)
      | some v =>
        letOwnedTupleGo tg it v
        assign tg env v
        let ok ← okAll env ifs
        if ok then bodyO (.DictComp kx vx [⟨tg, iter, ifs, 0⟩, ⟨tg1, iter1, ifs1, 0⟩] scope pos) iter1 (.ref D) env
        again (.compLoop (.DictComp kx vx [⟨tg, iter, ifs, 0⟩, ⟨tg1, iter1, ifs1, 0⟩] scope pos) 0 it (.ref D) env)) := by
  have e : compTurn (.DictComp kx vx [⟨tg, iter, ifs, 0⟩, ⟨tg1, iter1, ifs1, 0⟩] scope pos) 0 it (.ref D) env = (do
      standAt iter.pos
      match ← pyNext it with
      | none => pure (.done .next)
      | some v =>
        letOwnedTupleGo tg it v
        assign tg env v
        let ok ← okAll env ifs
        if ok then
          let x ← eval iter1 env
          standAt iter1.pos
          let x ← foldedSetIterable iter1 env x
          let _ ← runOwn (.compStart (.DictComp kx vx [⟨tg, iter, ifs, 0⟩, ⟨tg1, iter1, ifs1, 0⟩] scope pos) 1 (← holding [x] (pyIter x)) (.ref D) env) env
        again (.compLoop (.DictComp kx vx [⟨tg, iter, ifs, 0⟩, ⟨tg1, iter1, ifs1, 0⟩] scope pos) 0 it (.ref D) env)) := by rfl
  rw [e]
  simp only [bodyO, bind_assoc, pure_bind]
end
/-- {k: v for tg in iter if .. for tg1 in iter1 if ..}, keys ints or texts -/
def tDc2 (wi : TI) (g : TG) (tt : TT) (wi1 : TI) (g1 : TG) (tt1 : TT) (tk tv : TE) (vs vs1 : List Nat) : TE := fun σ H Q => wi σ H fun J H1 => ∀ D, H1 D = none → ∃ W : Nat → Nat → Hp → Prop, (∃ m, W 0 m (upd H1 D (.dK []))) ∧ ∀ i m H, W i m H →
  (J.stop i H ∧ Q (.ref D) H) ∨ (J.go i H ∧ ∃ Nx : Hp → Prop, (∀ H', Nx H' → ∃ m', m' < m ∧ W (i + 1) m' H') ∧ ∀ x H', J.yld i H x H' → g x (wipe σ vs) H' fun σ2 H2 => wipe σ2 vs = wipe σ vs ∧ tt σ2 H2 fun b H3 =>
    if b = true then wi1 σ2 H3 fun J1 H4 => ∃ W1 : Nat → Nat → Hp → Prop, (∃ m, W1 0 m H4) ∧ ∀ j k H, W1 j k H →
      (J1.stop j H ∧ Nx H) ∨ (J1.go j H ∧ ∃ Nx1 : Hp → Prop, (∀ H', Nx1 H' → ∃ k', k' < k ∧ W1 (j + 1) k' H') ∧ ∀ x H', J1.yld j H x H' → g1 x (wipe σ2 vs1) H' fun σ3 H5 => wipe σ3 vs1 = wipe σ2 vs1 ∧ tt1 σ3 H5 fun b H6 =>
        if b = true then tk σ3 H6 fun y H7 => tv σ3 H7 fun z H8 => ∃ kvs k, y = kV k ∧ H8 D = some (.dK kvs) ∧ kvs.length < sizeLine ∧ Nx1 (upd H8 D (.dK (putK kvs k z))) else Nx1 H6)
    else Nx H3)
theorem wipe_at {σ : L2.St} {i : Nat} : ∀ {vs : List Nat}, i ∈ vs → i < σ.length → (wipe σ vs)[i]? = some none
  | v :: vs, h, hl => by
    show ((wipe σ vs).set v none)[i]? = _
    by_cases e : v = i
    · rw [e, List.getElem?_set_self (by rw [wipe_length]; exact hl)]
    · rw [List.getElem?_set_ne e]
      rcases List.mem_cons.mp h with z | z
      · exact absurd z.symm e
      · exact wipe_at z hl
theorem wipe_two {σ : L2.St} {vs ws : List Nat} (h : ∀ i ∈ ws, i ∈ vs) : wipe (wipe σ ws) vs = wipe σ vs := by
  apply List.ext_getElem?
  intro i
  by_cases hl : i < σ.length
  · by_cases hi : i ∈ vs
    · rw [wipe_at hi (by rw [wipe_length]; exact hl), wipe_at hi hl]
    · rw [wipe_out hi, wipe_out hi, wipe_out fun z => hi (h i z)]
  · rw [List.getElem?_eq_none (by rw [wipe_length, wipe_length]; omega), List.getElem?_eq_none (by rw [wipe_length]; omega)]
section
variable {X : Cx}
theorem pe_dc2 {kx vx tg iter tg1 iter1 : Expr} {ifs ifs1 : List Expr} {scope : Scope} {own : List (Str × Nat)} {vs1 : List Nat} {pos : Pos} {wi wi1 : TI} {g g1 : TG} {tt tt1 : TT} {tk tv : TE} (hc : X.calm = true) (hN : X.N.Nodup) (hi : PI X tg iter wi) (ok : BlkOk X.N X.env.scope scope own) (hv : ∀ i ∈ vs1, i ∈ own.map (·.2))
    (hg : ∀ (s : Shared) (H : Hp) (C : Addr) (cl : List (Str × Addr)) (fp : List Addr), PG (X.blk s H scope (compEnvC scope cl C X.env) fp) tg g) (ht : ∀ (s : Shared) (H : Hp) (C : Addr) (cl : List (Str × Addr)) (fp : List Addr), PTs (X.blk s H scope (compEnvC scope cl C X.env) fp) ifs tt)
    (hi1 : ∀ (s : Shared) (H : Hp) (C : Addr) (cl : List (Str × Addr)) (fp : List Addr), PI (X.blk s H scope (compEnvC scope cl C X.env) fp) tg1 iter1 wi1)
    (hg1 : ∀ (s : Shared) (H : Hp) (C : Addr) (cl : List (Str × Addr)) (fp : List Addr), PG (X.blk s H scope (compEnvC scope cl C X.env) fp) tg1 g1) (ht1 : ∀ (s : Shared) (H : Hp) (C : Addr) (cl : List (Str × Addr)) (fp : List Addr), PTs (X.blk s H scope (compEnvC scope cl C X.env) fp) ifs1 tt1)
    (hk : ∀ (s : Shared) (H : Hp) (C : Addr) (cl : List (Str × Addr)) (fp : List Addr), PE (X.blk s H scope (compEnvC scope cl C X.env) fp) kx tk)
    (he : ∀ (s : Shared) (H : Hp) (C : Addr) (cl : List (Str × Addr)) (fp : List Addr), PE (X.blk s H scope (compEnvC scope cl C X.env) fp) vx tv) (hs : ∀ x, foldedSetIterable iter X.env x = pure x := by intro _; rfl) (hs1 : ∀ env x, foldedSetIterable iter1 env x = pure x := by intro _ _; rfl) :
    PE X (.DictComp kx vx [⟨tg, iter, ifs, 0⟩, ⟨tg1, iter1, ifs1, 0⟩] scope pos) (tDc2 wi g tt wi1 g1 tt1 tk tv (own.map (·.2)) vs1) := by
  constructor
  intro pins s σ H Q I h
  rw [arm_eval_DictComp]
  have caps : ∀ y ∈ scope.names, y.2 = .free → ∃ c, X.env.cells.lookup y.1 = some c := fun y hy e => (ok.free y hy e).elim (fun k => I.ok.has _ (.inl k)) fun k => I.ok.has _ (.inr k)
  refine wpAny_comprehension_free (use := none) rfl hs (closure_ok caps) ok.kind (fun y hy e => by rw [ok.uniq y hy, e]) (thn (hi.run pins s σ H _ I h) fun xv s1 q1 => thn q1 ?_)
  rintro itv s2 ⟨it, fp, tn, J, H2, rfl, I2, T, t2, f2, q2⟩
  refine wpAny_newObj_type (newEnv_comp ?_)
  -- the new dict, at D
  obtain ⟨D, eD⟩ : ∃ D, D = s2.heap.objs.size := ⟨_, rfl⟩
  have nD : H2 D = none := I2.hok.fresh (Nat.le_of_eq eD.symm)
  obtain ⟨W, ⟨m0, w0⟩, turn⟩ := q2 D nD
  have old : ∀ b o, s2.heap.get? b = some o → (s2.heap.push { cls := .type "dict", data := .dict #[] }).get? b = some o := fun b o e => Heap.get?_push_of_some _ e
  have I3 : Inv X pins σ (upd H2 D (.dK [])) { s2 with heap := s2.heap.push { cls := .type "dict", data := .dict #[] } } := by
    rw [eD]
    exact I2.laid (t' := s2.toks) old (Nat.le_refl _) (dk_empty s2.heap I2.big)
  have at3 : ∀ b ∈ fp, FpOk X pins (upd H2 D (.dK [])) b ∧ b < (s2.heap.push { cls := .type "dict", data := .dict #[] }).objs.size := fun b hb => by
    obtain ⟨o, e, _⟩ := T.obj _ _ t2 b hb
    have lt := Heap.lt_size e
    refine ⟨⟨?_, (f2 b hb).2⟩, by rw [Heap.size_push]; exact Nat.lt_succ_of_lt lt⟩
    rw [upd_ne (by rw [eD]; exact Nat.ne_of_lt lt)]
    exact (f2 b hb).1
  have t3 : tn 0 (s2.heap.push { cls := .type "dict", data := .dict #[] }) := T.keep _ _ _ t2 fun b _ o e => old b o e
  rw [← eD]
  obtain ⟨s3, e3⟩ : ∃ s3 : Shared, s3 = { s2 with heap := s2.heap.push { cls := .type "dict", data := .dict #[] } } := ⟨_, rfl⟩
  have h3 : s2.heap.push { cls := .type "dict", data := .dict #[] } = s3.heap := by rw [e3]
  rw [h3] at at3 t3
  rw [← e3] at I3 ⊢
  have I4 := block_start I3 ok hN at3
  have n4 : ∀ b ∈ fp, (upd H2 D (.dK [])) b = none := fun b hb => (at3 b hb).1.1
  have t4 : tn 0 (pushCells (s3.heap.push { cls := .type "dict", data := .dict #[] }) scope.names) := T.keep _ _ _ t3 fun b _ o e => pushCells_keeps _ _ _ _ (Heap.get?_push_of_some _ e)
  have pg := hg s3 (upd H2 D (.dK [])) s3.heap.objs.size (cellsFrom (s3.heap.objs.size + 1) scope.names (cloFrom X.env.cells scope.names [])) fp
  have pt := ht s3 (upd H2 D (.dK [])) s3.heap.objs.size (cellsFrom (s3.heap.objs.size + 1) scope.names (cloFrom X.env.cells scope.names [])) fp
  have pi1 := hi1 s3 (upd H2 D (.dK [])) s3.heap.objs.size (cellsFrom (s3.heap.objs.size + 1) scope.names (cloFrom X.env.cells scope.names [])) fp
  have pg1 := hg1 s3 (upd H2 D (.dK [])) s3.heap.objs.size (cellsFrom (s3.heap.objs.size + 1) scope.names (cloFrom X.env.cells scope.names [])) fp
  have pt1 := ht1 s3 (upd H2 D (.dK [])) s3.heap.objs.size (cellsFrom (s3.heap.objs.size + 1) scope.names (cloFrom X.env.cells scope.names [])) fp
  have pk := hk s3 (upd H2 D (.dK [])) s3.heap.objs.size (cellsFrom (s3.heap.objs.size + 1) scope.names (cloFrom X.env.cells scope.names [])) fp
  have pv := he s3 (upd H2 D (.dK [])) s3.heap.objs.size (cellsFrom (s3.heap.objs.size + 1) scope.names (cloFrom X.env.cells scope.names [])) fp
  obtain ⟨ce, ece⟩ : ∃ ce, ce = compEnvC scope (cellsFrom (s3.heap.objs.size + 1) scope.names (cloFrom X.env.cells scope.names [])) s3.heap.objs.size X.env := ⟨_, rfl⟩
  have cL : ce.locals = s3.heap.objs.size := by rw [ece]; rfl
  rw [← ece] at I4 pg pt pi1 pg1 pt1 pk pv
  have loop : codeAny (model X.prog X.w) X.A (.compLoop (.DictComp kx vx [⟨tg, iter, ifs, 0⟩, ⟨tg1, iter1, ifs1, 0⟩] scope pos) 0 (.ref it) (.ref D) ce) (compPost (model X.prog X.w) X.A X.xe none (fun v s' => EP X pins σ Q v s') (.ref D) s3.heap.objs.size) { s3 with heap := pushCells (s3.heap.push { cls := .type "dict", data := .dict #[] }) scope.names } := by
    refine dwalk (Y := X.blk s3 (upd H2 D (.dK [])) scope ce fp) (pins := []) (σ := σ) (vs := own.map (·.2)) (Fin := fun H' => Q (.ref D) H') hc turnO T pg pt rfl (fun {H' s'} I' hn b hb => ?_) I4 t4 n4 w0 turn ?_ ?_
    · exact ⟨hn b hb, (I'.ok.exf b hb).1, I'.ok.exfs b hb, .inl hb, fun x c e => (I'.ok.exf b hb).2 x c e, fun p hp => absurd hp (by simp [Cx.blk])⟩
    · intro pl σ4 H4 s4 Nx hw4 J4 q4
      refine wpAny_bind (thnF (pi1.run _ s4 σ4 H4 _ J4 q4) fun xv s5 q5 => ?_)
      refine wpAny_bind (wpAny_standAt (wpAny_bind (wpAny_of_eq (hs1 _ xv) (wpAny_bind (wpAny_holding (thnF q5 ?_))))))
      rintro itv s6 ⟨it1, fp1, tn1, J1, H6, rfl, I6, T1, t6, f6, W1, ⟨m1, w1⟩, turn1⟩
      have loop1 : codeAny (model X.prog X.w) X.A (.compLoop (.DictComp kx vx [⟨tg, iter, ifs, 0⟩, ⟨tg1, iter1, ifs1, 0⟩] scope pos) 1 (.ref it1) (.ref D) ce)
          (fun r s' => match r with
            | .ok _ => ∃ σ3 H3, Inv (X.blk s3 (upd H2 D (.dK [])) scope ce fp) ([] ++ pl) σ3 H3 s' ∧ wipe σ3 (own.map (·.2)) = wipe σ (own.map (·.2)) ∧ Nx H3
            | .error _ => False) s6 := by
        refine dwalk (Y := X.blk s3 (upd H2 D (.dK [])) scope ce fp) (pins := [] ++ pl) (σ := σ4) (vs := vs1) (Fin := Nx) hc turnI T1 pg1 pt1 rfl (fun {H' s'} I' hn b hb => ⟨hn b hb, (f6 b hb).2⟩) (I6.weak (wipe_length _ _) fun j v e => (wipe_some e).1) t6 (fun b hb => (f6 b hb).1) w1 turn1 ?_ ?_
        · intro pl1 σ7 H7 s7 Nx1 hw7 J7 q7
          refine wpAny_bind (thnF (pk.run _ s7 σ7 H7 _ J7 q7) ?_)
          rintro kv s8 ⟨yk, H8, I8, r8, q8⟩
          refine wpAny_bind (wpAny_holding (thnF (pv.run _ s8 σ7 H8 _ I8 q8) ?_))
          rintro vv s9 ⟨yv, H9, I9, r9, kvs, k, rfl, hD9, hz9, nx⟩
          exact wpAny_bind (wpAny_standAt (wpAny_holding (d_dictSet (X := X.blk s3 (upd H2 D (.dK [])) scope ce fp) I9 hD9 hz9 r8 r9 fun s10 I10 => ⟨σ7, _, I10, hw7, nx⟩)))
        · intro H' s' J' nx
          exact ⟨wipe σ4 vs1, H', J', (wipe_two hv).trans hw4, nx⟩
      refine wpAny_bind (wpAny_runOwn ?_)
      rw [Around.mark_none]
      refine codeAny_mono (dstart loop1 (T1.self X.A 0 _ _ _ t6 loop1)) fun r s' hr => ?_
      match r, hr with
      | .ok _, hr => exact wpAny_pure hr
    · intro H' s' J' q
      have J7 : Inv X pins σ H' s' := I3.call' (ch := fp) J'.os J'.base J'.hok J'.bare fun b hb => ⟨(at3 b hb).1.2.2.2.1, (at3 b hb).1.2.1, (at3 b hb).1.2.2.2.2.1, (at3 b hb).1.2.2.2.2.2⟩
      have nC : H' s3.heap.objs.size = none := by rw [← cL]; exact J'.free
      obtain ⟨m, hn, _⟩ := J'.loc
      have hn : s'.heap.Ns ce.locals m := hn
      rw [cL] at hn
      obtain ⟨f0, f1, f2, f3, f4, f5⟩ := I3.fpOk (Nat.le_refl _) nC
      exact ⟨m, hn, fun h'' sb => ⟨.ref D, H', J7.turned (t' := s'.toks) (fun b o hb e => (sb.2 b hb).trans e) f0 f1 f3 f4 f5, rfl, q⟩⟩
  rw [ece] at loop
  exact codeAny_compStart_dict loop (T.self X.A 0 _ _ _ t4 loop)
end
end K73
set_option maxRecDepth 100000
set_option maxHeartbeats 4000000
namespace K73
open Enc (At enc)
open PySem PySem.Spec PyProof.Rows L2 Evl
/-! ### list(d.items()) -/
section
variable {prog : Program} {w : World} {A : Around} {E : Value → Shared → Prop} {s : Shared} {r d : Addr} {es : Array DictEntry} {ep : Nat}
theorem list_items {Q : Value → Shared → Prop} (hh : A.handled = none) (hv : s.heap.IsItemsView r d) (hm : DT.Raw s.heap d es ep) (hn : es.size ≤ sizeLine)
    (hQ : ∀ (h' : Heap) (tk : Nat) (acc : Array Value) (c : Nat) (as : List Addr), (∀ b o, s.heap.get? b = some o → h'.get? b = some o) → h'.get? s.heap.objs.size = some { cls := .type "list", dict := none, data := .seq acc c, slots := #[] } → as.length = es.size → DT.Made es s.heap.objs.size h' as →
      acc.toList = as.map Value.ref → Q (.ref s.heap.objs.size) { s with heap := h', toks := tk }) : wpAny (model prog w) A (call (.type "list") [.ref r]) Q E s := by
  obtain ⟨ov, hov, hvr⟩ := id hv
  have rlt : r < s.heap.objs.size := Heap.lt_size hov
  have dlt : d < s.heap.objs.size := hm.lt
  refine callType_codes (Q₁ := fun obj s₁ => obj = .ref s.heap.objs.size ∧ s₁ = { s with heap := s.heap.push { cls := .type "list", data := .seq #[] } }) PySem.F.called_list (PySem.F.typeCall_list_1 _) PySem.F.entry_list_init (code_list_new _ ⟨rfl, rfl⟩) ?_
  rintro obj s₁ ⟨rfl, rfl⟩
  obtain ⟨S, eS⟩ : ∃ S, S = s.heap.objs.size := ⟨_, rfl⟩
  have atS : (s.heap.push { cls := .type "list", data := .seq #[] }).get? S = some { cls := .type "list", data := .seq #[] } := by rw [eS]; exact Heap.get?_push_size _ rfl
  rw [← eS]
  refine ⟨⟨_, atS, rfl⟩, PySem.F.args_list_init_2 _ _, ?_⟩
  show wpAny _ _ (do let old ← Builtin.List.listItems (.ref S); Builtin.List.listUpdate (.ref S) (fun _ => #[]); letGo old.toList.reverse; Builtin.List.listExtendWith (.ref S) (.ref r) .none) _ _ _
  unfold Builtin.List.listItems
  refine wpAny_bind (wpAny_bind (wpAny_seqItems atS rfl (wpAny_pure ?_)))
  show wpAny _ _ (updateSeq S (fun _ => #[]) >>= fun _ => letGo (#[] : Array Value).toList.reverse >>= fun _ => Builtin.List.listExtendWith (.ref S) (.ref r) .none) _ _ _
  refine wpAny_bind (wpAny_updateSeq atS rfl (wpAny_bind (wpAny_letGo ?_)))
  have atS2 := Heap.get?_update_self (Obj.mapSeq (fun _ => (#[] : Array Value))) atS rfl
  have keep : ∀ b o, s.heap.get? b = some o → ((s.heap.push { cls := .type "list", data := .seq #[] }).update S (Obj.mapSeq (fun _ => (#[] : Array Value)))).get? b = some o := fun b o e => by
    have ne : S ≠ b := by rw [eS]; exact Nat.ne_of_gt (Heap.lt_size e)
    rw [Heap.get?_update_other _ _ ne]
    exact Heap.get?_push_of_some _ e
  refine DT.extI (A := A.in1) (s := { s with heap := (s.heap.push { cls := .type "list", data := .seq #[] }).update S (Obj.mapSeq (fun _ => (#[] : Array Value))) }) (es := es) (ep := ep) hh ⟨ov, keep _ _ hov, hvr⟩ (hm.at' fun o e => keep d o e) S (by rw [eS]; exact Nat.ne_of_gt rlt) (by rw [eS]; exact Nat.ne_of_lt dlt) .none _ atS2 (fun h' tk acc c as hk hS' hl hG hacc => ?_) hn
  refine ⟨rfl, ?_⟩
  rw [eS] at hS' ⊢
  exact hQ h' tk acc c as (fun b o e => hk b o (by rw [eS]; exact Nat.ne_of_lt (Heap.lt_size e)) (keep b o e)) hS' hl (hG.low (by rw [← eS]; exact Nat.le_of_lt (Heap.lt_size atS2))) hacc
end
/-- the pairs told at their addresses -/
def putP : Hp → List Addr → List (V × V) → Hp
  | H, a :: as, p :: ps => putP (upd H a (.tup [p.1, p.2])) as ps
  | H, _, _ => H
theorem putP_off {b : Addr} : ∀ (as : List Addr) (ps : List (V × V)) (H : Hp), b ∉ as → putP H as ps b = H b
  | [], _, _, _ => rfl
  | _ :: _, [], _, _ => rfl
  | a :: as, p :: ps, H, h => (putP_off as ps _ fun z => h (List.mem_cons_of_mem _ z)).trans (upd_ne fun z => h (z ▸ List.mem_cons_self))
theorem putP_at : ∀ (as : List Addr) (ps : List (V × V)) (H : Hp) (j : Nat) (a : Addr) (p : V × V), as.Nodup → as[j]? = some a → ps[j]? = some p → putP H as ps a = some (.tup [p.1, p.2])
  | a :: as, p :: ps, H, 0, a', p', hn, h1, h2 => by
    cases h1
    cases h2
    exact (putP_off as ps _ (List.nodup_cons.mp hn).1).trans upd_same
  | a :: as, p :: ps, H, j + 1, a', p', hn, h1, h2 => putP_at as ps _ j a' p' (List.nodup_cons.mp hn).2 h1 h2
  | [], _, _, _, _, _, _, h1, _ => by simp at h1
  | _ :: _, [], _, _, _, _, _, _, h2 => by simp at h2
section
variable {X : Cx} {pins : List (Addr × Obj)} {σ : L2.St} {H : Hp} {s : Shared}
theorem pairs_laid {h' : Heap} {tk : Nat} {es : Array DictEntry} {ps : List (V × V)} {acc : Array Value} {c : Nat} {as : List Addr} (I : Inv X pins σ H s) (hz : es.size ≤ sizeLine) (hp : Paired (fun (p : V × V) (e : DictEntry) => RelV p.1 e.key ∧ RelV p.2 e.val) ps es.toList)
    (hk : ∀ b o, s.heap.get? b = some o → h'.get? b = some o) (hS : h'.get? s.heap.objs.size = some { cls := .type "list", dict := none, data := .seq acc c, slots := #[] }) (hl : as.length = es.size) (hG : DT.Made es s.heap.objs.size h' as) (hacc : acc.toList = as.map Value.ref) :
    ∃ H' : Hp, Ex H H' ∧ H s.heap.objs.size = none ∧ (∀ t ∈ as, H t = none) ∧ s.heap.objs.size ∉ as ∧ H' s.heap.objs.size = some (.lst (as.map V.ref)) ∧ (∀ (j : Nat) (a : Addr) (p : V × V), as[j]? = some a → ps[j]? = some p → H' a = some (.tup [p.1, p.2])) ∧ Inv X pins σ H' { s with heap := h', toks := tk } := by
  obtain ⟨S, eS⟩ : ∃ S, S = s.heap.objs.size := ⟨_, rfl⟩
  rw [← eS] at hS hG ⊢
  have nS : S ∉ as := fun z => Nat.lt_irrefl _ (hG.above _ z)
  have nd : as.Nodup := hG.rise.imp fun h => Nat.ne_of_lt h
  have newT : ∀ t ∈ as, H t = none := fun t ht => I.hok.fresh (by rw [← eS]; exact Nat.le_of_lt (hG.above t ht))
  have newS : H S = none := I.hok.fresh (Nat.le_of_eq eS.symm)
  have off : ∀ b, b ∉ as → b ≠ S → putP (upd H S (.lst (as.map V.ref))) as ps b = H b := fun b h1 h2 => (putP_off as ps _ h1).trans (upd_ne h2)
  have low : ∀ b o, s.heap.get? b = some o → b ∉ as ∧ b ≠ S := fun b o e => by
    have lt := Heap.lt_size e
    rw [← eS] at lt
    exact ⟨fun z => absurd lt (Nat.not_lt.mpr (Nat.le_of_lt (hG.above b z))), Nat.ne_of_lt lt⟩
  have ex : Ex H (putP (upd H S (.lst (as.map V.ref))) as ps) := fun b u e => (off b (fun z => by rw [newT b z] at e; cases e) fun z => by rw [z, newS] at e; cases e).trans e
  have at_ := fun j a p => putP_at as ps (upd H S (.lst (as.map V.ref))) j a p nd
  have atS : putP (upd H S (.lst (as.map V.ref))) as ps S = some (.lst (as.map V.ref)) := (putP_off as ps _ nS).trans upd_same
  have len : ps.length = as.length := by rw [hp.length, Array.length_toList, hl]
  refine ⟨_, ex, newS, newT, nS, atS, at_, ?_⟩
  refine I.call' (ch := []) rfl ⟨fun b o q _ _ _ => hk b o q, fun b o q _ _ _ => ⟨o.slots, hk b o q⟩, fun b o q n _ => (off b (low b o q).1 (low b o q).2).trans n, fun b o q _ => ⟨o, hk b o q⟩, fun b xs q => ex b _ q, fun b o u q => ex b _ q, fun b qs q => ⟨#[], (ex b _ q).trans (by rw [Array.append_empty])⟩⟩ (fun b u q => ?_) I.bare fun b z => absurd z List.not_mem_nil
  by_cases hb : b ∈ as
  · obtain ⟨j, hj⟩ := List.mem_iff_getElem?.mp hb
    obtain ⟨e, he, hobj⟩ := hG.pairs j b hj
    have hjl : j < ps.length := by rw [len]; exact (List.getElem?_eq_some_iff.mp hj).1
    have hpj : ps[j]? = some ps[j] := List.getElem?_eq_getElem hjl
    rw [at_ j b _ hj hpj] at q
    cases q
    obtain ⟨e', he', r1, r2⟩ := Paired.get hp hpj
    rw [Array.getElem?_toList, he] at he'
    cases he'
    exact ⟨by show 2 ≤ sizeLine; decide, [e.key, e.val], .cons r1 (.cons r2 .nil), ⟨_, hobj, rfl, _, rfl⟩⟩
  · by_cases hb2 : b = S
    · subst hb2
      rw [atS] at q
      cases q
      refine ⟨by rw [List.length_map, hl]; exact hz, acc.toList, c, by rw [hacc]; exact LiI.vals_refs as, ?_⟩
      rw [Array.toArray_toList]
      exact hS
    · rw [off b hb hb2] at q
      exact (I.hok b u q).stay (fun d v _ y => hk d v y) (fun d y => ex d _ y) fun d xs y => ex d _ y
end
def rItemsX : V → Hp → VK → Prop := fun x H Q => ∃ d : Addr, x = .ref d ∧ ((∃ kvs : List (Key × V), H d = some (.dK kvs) ∧
    ∀ (H' : Hp) (p : Addr) (ts : List Addr), Ex H H' → H p = none → (∀ t ∈ ts, H t = none) → p ∉ ts → H' p = some (.lst (ts.map V.ref)) → Paired (fun (t : Addr) (q : Key × V) => H' t = some (.tup [kV q.1, q.2])) ts kvs → Q (.ref p) H') ∨
  ∃ kvs : List (List Key × V), H d = some (.dT kvs) ∧
    ∀ (H' : Hp) (p : Addr) (ts : List Addr), Ex H H' → H p = none → (∀ t ∈ ts, H t = none) → p ∉ ts → H' p = some (.lst (ts.map V.ref)) → Paired (fun (t : Addr) (q : List Key × V) => ∃ b, H' t = some (.tup [.ref b, q.2]) ∧ H' b = some (.tup (q.1.map kV))) ts kvs → Q (.ref p) H')
def tListItemsX (te : TE) : TE := fun σ H Q => te σ H fun x H1 => rItemsX x H1 Q
theorem paired_of {α β : Type} {F : α → β → Prop} : ∀ {l : List α} {m : List β}, l.length = m.length → (∀ (i : Nat) (v : α) (t : β), l[i]? = some v → m[i]? = some t → F v t) → Paired F l m
  | [], [], _, _ => .nil
  | [], _ :: _, h, _ => by cases h
  | _ :: _, [], h, _ => by cases h
  | a :: l, b :: m, h, f => .cons (f 0 a b rfl rfl) (paired_of (Nat.succ.inj h) fun i v t h1 h2 => f (i + 1) v t h1 h2)
section
variable {X : Cx} {e : Expr} {te : TE} {p apos cpos pos : Pos}
theorem pe_listItemsX (hc : X.calm = true) (he : PE X e te) (hg : Gl X "list") (hm : X.mg "list" = none) (hv : bootBuiltins "list" = some (.type "list")) (hbase : attributeBase e "items" X.env (eval e X.env) = eval e X.env := by rfl) (hline : (apos.endLine == cpos.line) = true := by rfl)
    (hs : starEach [.Call (.Attribute e "items" apos) [] [] cpos] X.env = (false, eval (.Call (.Attribute e "items" apos) [] [] cpos) X.env) :: starEach [] X.env := by rfl) :
    PE X (.Call (.Name "list" p) [.Call (.Attribute e "items" apos) [] [] cpos] [] pos) (tListItemsX te) := by
  constructor
  intro pins s σ H Q I hq
  refine wpAny_Call_Name_kw (ld_blt I hg hm hv (PyProof.Rows.callWith_type1 ?_ hs rfl))
  rw [hs]
  show wpAny _ _ (spliced ((false, eval (.Call (.Attribute e "items" apos) [] [] cpos) X.env) :: backTo pos (starEach [] X.env))) _ _ s
  refine Calls.spliced_cons (wpAny_Call_method (T := "dict") (id := "dict.items") hbase rfl hline F.plainAttrs_dict F.slot_dict_items F.type_dict_items (thn (he.run pins s σ H _ I hq) ?_))
  rintro u s1 ⟨x, H1, I1, rx, d, rfl, q⟩
  obtain rfl : u = Value.ref d := rx
  rcases q with ⟨kvs, hd, q⟩ | ⟨kvs, hd, q⟩
  · obtain ⟨hz, hs0, vs, kv, hdo⟩ := I1.hok d _ hd
    obtain ⟨ep, hat⟩ := hdo.dictAt
    have lk : kvs.length = vs.length := Paired.length kv
    have I2 : Inv X pins σ H1 { s1 with heap := s1.heap.push { cls := .type "dict_items", data := .fields #[.ref d] } } := I1.kept (t' := s1.toks) fun b ob q => Heap.get?_push_of_some _ q
    refine ⟨hdo.typeIs, hdo.mapOf.noDict, ?_⟩
    show wpAny _ _ (callWith cpos (.builtin "dict.items") [.ref d] [] []) _ X.xe s1
    refine method_meetsIn F.slot_dict_items F.entry_dict_items rfl (PySem.evalArgs_none ⟨rfl, hdo.typeIs, F.args_dict_items_1 _, _, meets_dict_items (mixKind X.prog X.w) d hs0, ⟨vs, hdo⟩, Calls.spliced_nil ?_⟩)
    refine PySem.W.kdx_call (knd := mixKind X.prog X.w) (kvs := vs) (ep := ep) (I1.ok.hd hc) ⟨_, Heap.get?_push_size _ rfl, rfl, rfl⟩ (hat.push _) (by omega) fun h' tk acc c as hk hS hl hG hacc => ?_
    obtain ⟨H', k1, k2, k3, k4, k5, k6, J⟩ := LiI.items_laid (tk := tk) I2 hz kv hk hS hl hG hacc
    exact ⟨.ref _, H', J, rfl, q H' _ as k1 k2 k3 k4 k5 k6⟩
  · obtain ⟨hz, hs0, xs, rel, o, es, ep, ho, hx, hdt, hes, hnd⟩ := I1.hok d _ hd
    have lx : kvs.length = xs.length := rel.length
    have le : es.size = xs.length := by rw [← Array.length_toList, hes, List.length_map]
    have raw : DT.Raw s1.heap d es ep := ⟨o, ho, hx, hdt⟩
    have I2 : Inv X pins σ H1 { s1 with heap := s1.heap.push { cls := .type "dict_items", data := .fields #[.ref d] } } := I1.kept (t' := s1.toks) fun b ob q => Heap.get?_push_of_some _ q
    refine ⟨raw.typeIs, fun a ea => by cases ea; exact ⟨o, ho, hx.2.1⟩, ?_⟩
    show wpAny _ _ (callWith cpos (.builtin "dict.items") [.ref d] [] []) _ X.xe s1
    refine method_meetsIn F.slot_dict_items F.entry_dict_items rfl (PySem.evalArgs_none ⟨rfl, raw.typeIs, F.args_dict_items_1 _, _, DT.meetsItems (es := es) (ep := ep) hs0, raw, Calls.spliced_nil ?_⟩)
    refine list_items (es := es) (ep := ep) (I1.ok.hd hc) ⟨_, Heap.get?_push_size _ rfl, rfl, rfl⟩ (raw.push _) (by omega) fun h' tk acc c as hk hS hl hG hacc => ?_
    have hp : Paired (fun (p : V × V) (e : DictEntry) => RelV p.1 e.key ∧ RelV p.2 e.val) (xs.zip kvs |>.map fun z => (V.ref z.1.2.1, z.2.2)) es.toList := by
      rw [hes]
      refine paired_of (by rw [List.length_map, List.length_map, List.length_zip]; omega) fun i v t h1 h2 => ?_
      rw [List.getElem?_map] at h1 h2
      cases hxi : xs[i]? with
      | none => rw [hxi] at h2; cases h2
      | some x =>
        have hi := (List.getElem?_eq_some_iff.mp hxi).1
        have hki : kvs[i]? = some (kvs[i]'(by omega)) := List.getElem?_eq_getElem (by omega)
        rw [hxi] at h2
        have hzi : (xs.zip kvs)[i]? = some (x, kvs[i]'(by omega)) := List.getElem?_zip_eq_some.mpr ⟨hxi, hki⟩
        rw [hzi] at h1
        cases h1
        cases h2
        obtain ⟨x', hx', r1, r2, r3⟩ := Paired.get rel hki
        rw [hxi] at hx'
        cases hx'
        exact ⟨rfl, r3⟩
    obtain ⟨H', k1, k2, k3, k4, k5, k6, J⟩ := pairs_laid (tk := tk) I2 (by omega) hp hk hS hl hG hacc
    refine ⟨.ref _, H', J, rfl, q H' _ as k1 k2 k3 k4 k5 (paired_of (by omega) fun i t kv h1 h2 => ?_)⟩
    obtain ⟨x, hxi, r1, r2, r3⟩ := Paired.get rel h2
    refine ⟨x.2.1, k6 i t (V.ref x.2.1, kv.2) h1 ?_, k1 _ _ r2⟩
    have hzi : (xs.zip kvs)[i]? = some (x, kv) := List.getElem?_zip_eq_some.mpr ⟨hxi, h2⟩
    rw [List.getElem?_map, hzi]
    rfl
end
end K73
set_option maxRecDepth 100000
set_option maxHeartbeats 4000000
namespace K73
open Enc (At enc)
open PySem PySem.Spec PyProof.Rows L2 Evl
/-! ### dict(..) of pairs with tuples for keys -/
/-- the pairs put into a dict one after the other -/
def rDictT (K : PySem.W.Frag) : List V → Hp → VK → Prop := fun xs H Q => ∃ (a : Addr) (ps : List Addr) (kvs : List (List Key × V)), xs = [.ref a] ∧ SqL K H a (ps.map V.ref) ∧ Paired (fun p kv => ∃ b, SqT K H p [.ref b, kv.2] ∧ H b = some (.tup (kv.1.map kV))) ps kvs ∧ ps.length ≤ 100000 ∧
  ∀ p, H p = none → Q (.ref p) (upd H p (.dT (kvs.foldl (fun acc kv => putK acc kv.1 kv.2) [])))
section
variable {X : Cx}
/-- the pairs as the real heap has them -/
theorem real_pairs {pins : List (Addr × Obj)} {σ : L2.St} {H : Hp} {s : Shared} (I : Inv X pins σ H s) : ∀ {ps : List Addr} {kvs : List (List Key × V)}, Paired (fun p kv => ∃ b, SqT X.K H p [.ref b, kv.2] ∧ H b = some (.tup (kv.1.map kV))) ps kvs →
    ∃ xs : List (List Key × Addr × Value), KT H kvs xs ∧ xs.length = ps.length ∧ ∀ (j : Nat) (x : List Key × Addr × Value), xs[j]? = some x → ∃ p, ps[j]? = some p ∧ s.heap.IsTuple p #[.ref x.2.1, x.2.2]
  | _, _, .nil => ⟨[], .nil, rfl, fun j x e => by simp at e⟩
  | p :: ps, kv :: kvs, .cons ⟨b, hp, hb⟩ t => by
    obtain ⟨xs, r, hl, hx⟩ := real_pairs I t
    obtain ⟨its, rv, ht, _⟩ := I.tuple hp
    obtain ⟨u, y, rfl, ru, ry⟩ := vals2 rv
    cases ru
    refine ⟨(kv.1, b, y) :: xs, .cons ⟨rfl, hb, ry⟩ r, by rw [List.length_cons, List.length_cons, hl], fun j x e => ?_⟩
    cases j with
    | zero =>
      cases e
      exact ⟨p, rfl, ht⟩
    | succ j =>
      obtain ⟨q, h1, h2⟩ := hx j x (by simpa using e)
      exact ⟨q, by simpa using h1, h2⟩
theorem kt_fold {H : Hp} : ∀ {kvs : List (List Key × V)} {ms : List (List Key × Addr × Value)} {acc : List (List Key × V)} {xs : List (List Key × Addr × Value)}, KT H kvs ms → KT H acc xs → KT H (kvs.foldl (fun acc kv => putK acc kv.1 kv.2) acc) (PySem.storedAllH xs ms)
  | _, _, _, _, .nil, r => r
  | kv :: kvs, m :: ms, acc, xs, .cons ⟨h1, h2, h3⟩ t, r => by
    show KT H (kvs.foldl _ (putK acc kv.1 kv.2)) (PySem.storedAllH (storedH xs m.1 m.2.1 m.2.2) ms)
    rw [← h1]
    exact kt_fold t (r.put kv.1 h2 h3)
theorem call_dictTK (K : PySem.W.Frag) (hK : X.K = K) (hc : X.calm = true) (hu : X.A.units + 64 < cLine) : CallR X (.type "dict") (rDictT K) := by
  subst hK
  intro pins s σ H xs us Q I r q
  obtain ⟨a, ps, kvs, rfl, hq, hp, hz, q⟩ := q
  obtain ⟨u, rfl, rx⟩ := vals1 r
  cases rx
  obtain ⟨its, rv, pl, hsz⟩ := I.list hq
  have ei := refs_at rv
  subst ei
  obtain ⟨ms, rel, hl, hms⟩ := real_pairs I hp
  obtain ⟨o, n, ho, ho1, ho2, ho3⟩ := pl
  have nd : (s.heap.objs.size == sysModules) = false := beq_eq_false_iff_ne.mpr (Nat.ne_of_gt I.big)
  have keys : ∀ x ∈ ms, (tupleKind (mixKind X.prog X.w)).is s.heap x.1 x.2.1 := fun x hx => by
    obtain ⟨j, hj⟩ := List.mem_iff_getElem?.mp hx
    obtain ⟨kv, hkv⟩ : ∃ kv, kvs[j]? = some kv := ⟨kvs[j]'(by rw [rel.length]; exact (List.getElem?_eq_some_iff.mp hj).1), List.getElem?_eq_getElem _⟩
    obtain ⟨x', hx', r1, r2, r3⟩ := Paired.get rel hkv
    rw [hj] at hx'
    cases hx'
    rw [← r1]
    exact key_of I.hok r2
  have s1 : (100000 : Nat) < sizeLine := by decide
  refine PySem.call_dict_pairsH (knd := tupleKind (mixKind X.prog X.w)) (ps := ms) (PySem.PairArg.list a (ps.map Value.ref).toArray (fun j => ps.getD j 0) (ms.map fun x => (Value.ref x.2.1, x.2.2))) (I.ok.hd hc) (by show X.A.units + 1 + 1 < cLine; omega)
    ⟨⟨o, n, ho, ho1, ho2, ho3⟩, by rw [List.size_toArray, List.length_map, List.length_map, hl], fun j k v e => ?_⟩ ⟨by rw [List.length_map], fun j key v e => ?_⟩ (fun h' hk x hx => ?_) (by rw [List.length_map]; omega) fun h' tk hd' hk => ?_
  · rw [List.getElem?_map] at e
    cases hj : ms[j]? with
    | none => rw [hj] at e; cases e
    | some x =>
      rw [hj] at e
      cases e
      obtain ⟨p, h1, h2⟩ := hms j x hj
      refine ⟨by simp [h1], .inl ?_⟩
      show s.heap.IsTuple (ps.getD j 0) _
      rw [List.getD_eq_getElem?_getD, h1]
      exact h2
  · have e : (ms.map fun x => (Value.ref x.2.1, x.2.2))[j]? = some (key, v) := e
    rw [List.getElem?_map] at e
    cases hj : ms[j]? with
    | none => rw [hj] at e; cases e
    | some x =>
      rw [hj] at e
      cases e
      exact ⟨x.1, x.2.1, rfl, rfl⟩
  · exact PySem.tupleKind_stays.stays (fun b o vs n e _ => hk b o (Nat.ne_of_lt (Heap.lt_size e)) (by simp) e) (keys x hx)
  · have kp : ∀ b o, s.heap.get? b = some o → h'.get? b = some o := fun b o e => hk b o (by simp) e
    obtain ⟨od, es, ep, h1, h2, h3, h4, _, h5⟩ := hd'
    have hf := I.hok.fresh (Nat.le_refl _)
    have kt := kt_fold rel (.nil : KT H [] [])
    have len : (kvs.foldl (fun acc kv => putK acc kv.1 kv.2) []).length ≤ sizeLine := by
      rw [kt.length]
      have := PySem.storedAllH_length ms []
      rw [List.length_nil] at this
      omega
    exact ⟨.ref s.heap.objs.size, _, I.laid (t' := tk) kp (Nat.le_refl _) (show ObjOk X.prog X.w _ _ _ (.dT _) from ⟨len, nd, _, kt.keeps fun b ys e => by rw [upd_ne (ne_of_none e hf)]; exact e, od, es, ep, h1, h2, h3, h4, h5⟩), rfl, q _ hf⟩
end
end K73
set_option maxRecDepth 100000
set_option maxHeartbeats 4000000
namespace K73
open Enc (At enc)
open PySem PySem.Spec PyProof.Rows L2 Evl
/-! ### a tuple asked for in a dict with ints and texts for keys -/
section
variable {prog : Program} {w : World} {A : Around} {E : Value → Shared → Prop} {s : Shared} {d a : Addr} {ks : List Key}
theorem quiet_key {k : Key} {v : Value} (h : keyIs k v = true) : eqIsQuiet 8 v = pure true := by
  rcases keyIs_shape h with ⟨i, t, _, rfl⟩ | ⟨x, t, _, rfl⟩ <;> rfl
theorem find_miss {o : Obj} {es : Array DictEntry} {ep : Nat} {Q : Option Nat → Shared → Prop} (hu : A.units < cLine) (hkey : (tupleKind (mixKind prog w)).is s.heap ks a) (ho : s.heap.get? d = some o) (hd : o.data = .dict es ep) (hes : ∀ e ∈ es, ∃ k, keyIs k e.key = true) (h : Q none s) :
    wpAny (model prog w) A (dictFind d (.ref a) ((tupleKind (mixKind prog w)).hash ks)) Q E s := by
  have noRef : ∀ e ∈ es, ∀ b, e.key ≠ .ref b := fun e he b z => by
    obtain ⟨k, hk⟩ := hes e he
    rw [z] at hk
    rcases keyIs_shape hk with ⟨_, _, _, q⟩ | ⟨_, _, _, q⟩ <;> cases q
  have inSt : ∀ v ∈ (placesWithHash es.size (fun i => es[i]?.map (·.hash)) ((tupleKind (mixKind prog w)).hash ks)).filterMap (fun i => es[i]?.map (·.key)), ∃ e ∈ es, e.key = v := fun v hv => by
    obtain ⟨i, _, hi⟩ := List.mem_filterMap.mp hv
    cases hei : es[i]? with
    | none => rw [hei] at hi; cases hi
    | some e =>
      rw [hei] at hi
      exact ⟨e, Array.mem_of_getElem? hei, by simpa using hi⟩
  obtain ⟨ot, items, nt, hto, htc, htd, hti⟩ := id hkey
  have tup : s.heap.IsTuple a items := ⟨ot, hto, htc, nt, htd⟩
  have differs : ∀ e ∈ es, SeqAt.EqAt A s e.key (.ref a) false := fun e he => by
    obtain ⟨k, hk⟩ := hes e he
    rcases keyIs_shape hk with ⟨i, t, _, q⟩ | ⟨x, t, _, q⟩
    · rw [q]; exact SeqAt.EqAt.int_tuple i t tup hu
    · rw [q]; exact SeqAt.EqAt.str_tuple x t tup hu
  unfold dictFind
  refine wpAny_holding (wpAny_bind (wpAny_dictEntries ho hd ?_))
  dsimp only
  rw [if_neg (show ¬ ((Value.ref a :: (placesWithHash es.size (fun i => es[i]?.map (·.hash)) ((tupleKind (mixKind prog w)).hash ks)).filterMap (fun i => es[i]?.map (·.key))).all carriedByValue) = true by simp [carriedByValue])]
  rw [if_neg (show ¬ (es.any fun e => e.key == Value.ref a && e.hash != (tupleKind (mixKind prog w)).hash ks) = true by
    rw [← Array.any_toList, List.any_eq_true]
    rintro ⟨e, he, hc⟩
    rw [Bool.and_eq_true] at hc
    exact noRef e (Array.mem_toList_iff.mp he) a (beq_iff_eq.mp hc.1))]
  rw [if_neg (show ¬ (((placesWithHash es.size (fun i => es[i]?.map (·.hash)) ((tupleKind (mixKind prog w)).hash ks)).filterMap (fun i => es[i]?.map (·.key))) == [Value.ref a]) = true by
    intro z
    obtain ⟨e, he, q⟩ := inSt (Value.ref a) (by rw [beq_iff_eq.mp z]; exact List.mem_cons_self)
    exact noRef e he a q)]
  have tells : ∀ {Q' : Bool → Shared → Prop}, Q' false s → wpAny (model prog w) A (tableMayTell (.ref a) ((placesWithHash es.size (fun i => es[i]?.map (·.hash)) ((tupleKind (mixKind prog w)).hash ks)).filterMap (fun i => es[i]?.map (·.key)))) Q' E s := fun {Q'} q => by
    unfold tableMayTell
    split
    · exact wpAny_pure q
    · refine wpAny_bind ((tupleKind (mixKind prog w)).quiet hkey ?_)
      simp only [Bool.not_true, Bool.false_eq_true, if_false]
      refine wpAny_bind ?_
      refine wpAny_forIn_list _ (fun rest r s' => s' = s ∧ r = (none, ()) ∧ ∀ v ∈ rest, ∃ e ∈ es, e.key = v) _ ?_ ?_ _ _ ⟨rfl, rfl, inSt⟩
      · rintro x rest r s' ⟨rfl, rfl, hr⟩
        obtain ⟨e, he, rfl⟩ := hr x List.mem_cons_self
        obtain ⟨k, hk⟩ := hes e he
        rw [quiet_key hk]
        refine wpAny_bind (wpAny_pure ?_)
        simp only [Bool.not_true, Bool.false_eq_true, if_false]
        exact wpAny_pure ⟨rfl, rfl, fun v hv => hr v (List.mem_cons_of_mem _ hv)⟩
      · rintro r s' ⟨rfl, rfl, _⟩
        exact wpAny_pure q
  refine wpAny_bind (tells ?_)
  rw [if_neg (by simp)]
  refine wpAny_bind ?_
  refine wpAny_forIn_list _ (fun _ b s' => s' = s ∧ b = (none, none)) _ ?_ ?_ _ _ ⟨rfl, rfl⟩
  · rintro x rest b s' ⟨rfl, rfl⟩
    cases hx : es[x]? with
    | none => exact wpAny_pure ⟨rfl, rfl⟩
    | some e =>
      dsimp only
      by_cases hh : (e.hash == (tupleKind (mixKind prog w)).hash ks) = true
      · rw [if_pos hh]
        refine wpAny_bind (wpAny_dictEpoch ho hd (wpAny_bind (differs e (Array.mem_of_getElem? hx) _ _ _ _ (wpAny_bind (wpAny_dictEpoch ho hd ?_)))))
        show wpAny _ _ (if (ep != ep) = true then _ else _) _ E _
        rw [if_neg (by simp)]
        simp only [Bool.false_eq_true, if_false]
        refine wpAny_bind (wpAny_rule ?_)
        first | rw [if_neg (by simp)] | skip
        first
          | exact wpAny_pure ⟨rfl, rfl⟩
          | exact wpAny_bind (wpAny_pure (wpAny_pure ⟨rfl, rfl⟩))
      · rw [if_neg hh]
        exact wpAny_pure ⟨rfl, rfl⟩
  · rintro b s' ⟨rfl, rfl⟩
    exact wpAny_pure h
theorem contains_miss {vs : List (Key × Value)} {Q : Bool → Shared → Prop} (hu : A.in1.units < cLine) (hkey : (tupleKind (mixKind prog w)).is s.heap ks a) (hs : (d == sysModules) = false) (hm : s.heap.DictOf (mixKind prog w) d vs) (h : ∀ t, Q false { s with toks := t }) :
    wpAny (model prog w) A (contains (.ref d) (.ref a)) Q E s := by
  obtain ⟨o, es, ep, ho, hx, hdt, hk, hp, hn⟩ := id hm
  refine wpAny_contains_slot hm.typeIs F.slot_dict_contains (call_meetsIn F.slot_dict_contains hm.typeIs F.entry_dict_contains (F.args_dict_contains_2 _ _) (S := fun A' R s' => A' = A ∧ s' = s ∧ ∀ t, R (.ok (.ret (.bool false))) { s with toks := t }) (fun A' R s' hS => ?_) ⟨rfl, rfl, fun t => wpAny_truthy_bool (h t)⟩)
  obtain ⟨rfl, rfl, hq⟩ := hS
  show wpAny _ _ (dictGet d (.ref a) >>= _) _ _ _
  refine wpAny_bind ?_
  unfold dictGet
  refine wpAny_holding (wpAny_bind ((tupleKind (mixKind prog w)).pyHash hu hkey (wpAny_bind (find_miss (s := { s' with toks := s'.toks + (tupleKind (mixKind prog w)).draws ks }) hu hkey ho hdt (fun e he => let ⟨k, h1, _⟩ := hk e he; ⟨k, h1⟩) (wpAny_pure ?_)))))
  show wpAny _ _ (Builtin.Dict.pendingKey? d (.ref a) >>= _) _ _ _
  exact wpAny_bind (wpAny_pendingKey_other hs (wpAny_pure (hq _)))
end
def tDNotInX (ty td : TE) : TE := fun σ H Q => ty σ H fun y H1 => td σ H1 fun x H2 => (∃ a o, x = .ref a ∧ DGet H2 a y o ∧ Q (.bl (!o.isSome)) H2) ∨
  ∃ (a b : Addr) (kvs : List (Key × V)) (ks : List Key), x = .ref a ∧ y = .ref b ∧ H2 a = some (.dK kvs) ∧ H2 b = some (.tup (ks.map kV)) ∧ Q (.bl true) H2
def tDInX (ty td : TE) : TE := fun σ H Q => ty σ H fun y H1 => td σ H1 fun x H2 => (∃ a o, x = .ref a ∧ DGet H2 a y o ∧ Q (.bl o.isSome) H2) ∨
  ∃ (a b : Addr) (kvs : List (Key × V)) (ks : List Key), x = .ref a ∧ y = .ref b ∧ H2 a = some (.dK kvs) ∧ H2 b = some (.tup (ks.map kV)) ∧ Q (.bl false) H2
section
variable {X : Cx} {i o : Expr} {ty td : TE}
theorem pc_dnotinX (hu : X.A.units + 1 < cLine) (hi : PE X i ty) (ho : PE X o td) : PC X .NotIn i o (tDNotInX ty td) := by
  constructor
  intro pins s σ H Q I h
  refine thn (hi.run pins s σ H _ I h) fun iv s1 ⟨y, H1, I1, ry, q1⟩ => thn (ho.run pins s1 σ H1 _ I1 q1) ?_
  rintro u s2 ⟨x, H2, I2, rx, ⟨a, ov, rfl, g, q2⟩ | ⟨a, b, kvs, ks, rfl, rfl, hd, hb, q2⟩⟩
  · obtain rfl : u = Value.ref a := rx
    exact d_notIn hu I2 g ry fun s3 I3 => ⟨.bl (!ov.isSome), H2, I3, rfl, q2⟩
  · obtain rfl : u = Value.ref a := rx
    obtain rfl : iv = Value.ref b := ry
    obtain ⟨_, hs, vs, _, dd⟩ := dk_of I2.hok hd
    show wpAny _ _ (do return Value.bool (!(← contains (.ref a) (.ref b))) : Sem Value) _ _ _
    exact wpAny_bind (contains_miss hu (key_of I2.hok hb) hs dd fun t => wpAny_pure ⟨.bl true, H2, I2.tok _, rfl, q2⟩)
theorem pc_dinX (hu : X.A.units + 1 < cLine) (hi : PE X i ty) (ho : PE X o td) : PC X .In i o (tDInX ty td) := by
  constructor
  intro pins s σ H Q I h
  refine thn (hi.run pins s σ H _ I h) fun iv s1 ⟨y, H1, I1, ry, q1⟩ => thn (ho.run pins s1 σ H1 _ I1 q1) ?_
  rintro u s2 ⟨x, H2, I2, rx, ⟨a, ov, rfl, g, q2⟩ | ⟨a, b, kvs, ks, rfl, rfl, hd, hb, q2⟩⟩
  · obtain rfl : u = Value.ref a := rx
    exact d_in hu I2 g ry fun s3 I3 => ⟨.bl ov.isSome, H2, I3, rfl, q2⟩
  · obtain rfl : u = Value.ref a := rx
    obtain rfl : iv = Value.ref b := ry
    obtain ⟨_, hs, vs, _, dd⟩ := dk_of I2.hok hd
    show wpAny _ _ (do return Value.bool (← contains (.ref a) (.ref b)) : Sem Value) _ _ _
    exact wpAny_bind (contains_miss hu (key_of I2.hok hb) hs dd fun t => wpAny_pure ⟨.bl false, H2, I2.tok _, rfl, q2⟩)
end
end K73
set_option maxRecDepth 100000
set_option maxHeartbeats 4000000
namespace K73
open Enc (At enc)
open PySem PySem.Spec PyProof.Rows L2
/-! ### != of two instances of a class with an own == alone -/
section
variable {prog : Program} {w : World} {A : Around} {E : Value → Shared → Prop} {s : Shared} {K : PySem.W.Frag} {x y C f : Addr} {ox : Obj} {od : Option Obj}
theorem check_ne {M : Model} {Q : Unit → Shared → Prop} (LI : PySem.W.Looks M s.heap (isInstance (.ref x) (.type "object")) true) (q : Q () s) : wpAny M A (checkBuiltinCall "object.__ne__" ⟨[.ref x, .ref y], []⟩) Q E s := by
  simp only [checkBuiltinCall, F.cmpKind_ne, F.cmpSplit_ne]
  refine wpAny_bind (LI.here ?_)
  simp only [Bool.not_true, Bool.false_eq_true, if_false]
  have ha := F.cmpArgs_ne (.ref x) (.ref y)
  cases hsig : Manifest.signature? "object.__ne__" with
  | none => exact wpAny_pure q
  | some sig =>
    simp only [argsOk, hsig] at ha
    show wpAny M A (Bind.checkArgs "object.__ne__" sig ⟨[.ref x, .ref y], []⟩) Q E s
    rw [show Bind.checkArgs "object.__ne__" sig ⟨[.ref x, .ref y], []⟩ = pure () from ha]
    exact wpAny_pure q
theorem body_ne {Q : Fin → Shared → Prop} (hu : A.units < cLine) (X : K.In s.heap) (I : PySem.W.InstAt s.heap x ox C od) (he : PySem.W.findIn K (.ref C) "__eq__" = some (some (.ref f))) (hf : PySem.W.isFn K (.ref f) = true)
    (hcall : wpAny (model prog w) A (call (.ref f) [.ref x, .ref y]) (fun v s' => ∃ b, v = .bool b ∧ Q (.done (.ret (.bool (!b)))) s') E s) : wpAny (model prog w) A (Builtin.«object.__ne__» ⟨[.ref x, .ref y], []⟩) Q E s := by
  obtain ⟨h, g, d, t, os⟩ := s
  unfold Builtin.«object.__ne__»
  repeat (first
    | with_reducible refine wpAny_cRoomFor hu ?_
    | (refine wpAny_bind (m := callSpecialIfBound? (.ref x) (Str.ofString "__eq__") [.ref y])
        (PySem.W.ifBound_K X I he hf (wpAny_mono hcall (fun r s' hr => by
          obtain ⟨b, rfl, hq⟩ := hr
          repeat (first | exact hq | exact wpAny_pure hq | exact wpAny_truthy_bool hq | (refine wpAny_bind (m := truthy (.bool _)) (wpAny_truthy_bool ?_)) | wp_step)) fun _ _ e => e)))
    | wp_step)
theorem rc_ne {Q : Value → Shared → Prop} (hu : A.units + 1 < cLine) (X : K.In s.heap) (I : PySem.W.InstAt s.heap x ox C od) (hb : PySem.W.Looks (model prog w) s.heap (typeOf (.ref y)) (.ref C)) (hobj : PySem.W.subIn K (.ref C) (.type "object") = some true)
    (hn : PySem.W.findIn K (.ref C) "__ne__" = some (some (.builtin "object.__ne__"))) (he : PySem.W.findIn K (.ref C) "__eq__" = some (some (.ref f))) (hf : PySem.W.isFn K (.ref f) = true)
    (hcall : wpAny (model prog w) A.in1 (call (.ref f) [.ref x, .ref y]) (fun v s' => ∃ b, v = .bool b ∧ Q (.bool (!b)) s') E s) : wpAny (model prog w) A (richCompare .NotEq (.ref x) (.ref y)) Q E s := by
  have one : wpAny (model prog w) A (tryCompare (.ref x) "__ne__" (.ref y)) (fun r s' => ∃ b, r = some (.bool b) ∧ Q (.bool b) s') E s := by
    simp only [tryCompare]
    refine wpAny_bind ?_
    simp only [callSpecialIfBound?, bindSpecialIfBound?]
    refine wpAny_holding (wpAny_bind (wpAny_bind (wpAny_bind (I.type.here ((PySem.W.looks_findIn X hn).here ?_)))))
    simp only [F.cmp_object.ne.bind]
    refine wpAny_bind (wpAny_askSetting (wpAny_ite ?_))
    have LI : PySem.W.Looks (model prog w) s.heap (isInstance (.ref x) (.type "object")) true := I.type.andThen (PySem.W.looks_subIn X hobj)
    have fin : ∀ {Q' : Value → Shared → Prop}, (∀ b s', Q (.bool b) s' → Q' (.bool b) s') → wpAny (model prog w) A (call (.builtin "object.__ne__") ([.ref x] ++ [.ref y])) Q' E s := fun {Q'} hq =>
      wpAny_call (codeAny_call_builtin F.cmp_object.ne.plain F.cmpEntry_ne (check_ne LI (body_ne (A := A.in1) (show A.units + 1 < cLine from hu) X I he hf (wpAny_mono hcall (fun v s' hv => by
        obtain ⟨b, rfl, q⟩ := hv
        exact ⟨b, rfl, hq _ _ q⟩) fun _ _ e => e))))
    split
    · refine wpAny_bind (wpAny_pure (wpAny_pure ?_))
      exact wpAny_bind (fin fun b s' q => wpAny_pure (wpAny_pure ⟨b, rfl, q⟩))
    · refine wpAny_tryCatch (wpAny_bind (wpAny_pure (wpAny_pure ?_)))
      exact wpAny_bind (fin fun b s' q => wpAny_pure (wpAny_pure ⟨b, rfl, q⟩))
  unfold richCompare
  simp only [oneThing_ref]
  refine wpAny_holding (wpAny_bind (wpAny_cRoomFor (by omega) ?_))
  rw [cmpInfo_NotEq]
  dsimp only
  refine wpAny_bind (I.type.here (wpAny_bind (hb.here ?_)))
  rw [show (Value.ref C != Value.ref C) = false from by simp]
  simp only [Bool.false_eq_true, if_false]
  refine wpAny_bind (wpAny_pure ?_)
  simp only [Bool.false_eq_true, if_false]
  refine wpAny_bind (wpAny_mono one (fun r s' z => ?_) fun _ _ e => e)
  obtain ⟨b, rfl, q⟩ := z
  first
    | exact wpAny_pure q
    | exact wpAny_pure (wpAny_pure q)
end
end K73
set_option maxRecDepth 100000
set_option maxHeartbeats 4000000
namespace K73
open Enc (At enc)
open PySem L2 Evl
/-! ### rules over the written part K itself -/
theorem pi_listK {X : Cx} {tg l : Expr} {tl : TE} (K : PySem.W.Frag) (hK : X.K = K) (hl : PE X l tl) : PI X tg l (iList K tl) := hK ▸ pi_list hl
theorem pi_seqK {X : Cx} {tg l : Expr} {tl : TE} (K : PySem.W.Frag) (hK : X.K = K) (hl : PE X l tl) : PI X tg l (iSeq K tl) := hK ▸ pi_seq hl
theorem pi_tupK {X : Cx} {tg l : Expr} {tl : TE} (K : PySem.W.Frag) (hK : X.K = K) (hl : PE X l tl) : PI X tg l (iTup K tl) := hK ▸ pi_tup hl
theorem pe_fldK {X : Cx} {e : Expr} {f : Str} {pos : Pos} {ta : TE} (K : PySem.W.Frag) (hK : X.K = K) (he : PE X e ta) (hb : attributeBase e f X.env (eval e X.env) = eval e X.env) : PE X (.Attribute e f pos) (tFld K ta f) := hK ▸ pe_fld he hb
theorem ps_fldK {X : Cx} {o value : Expr} {f : Str} {pos pos' : Pos} {ta tv : TE} (K : PySem.W.Frag) (hK : X.K = K) (ha : PE X o ta) (hv : PE X value tv) (hs : swapsWith value (some (.Attribute o f pos')) pos.line X.env = pure false) : PS X (.Assign [.Attribute o f pos'] value pos) (sFld K ta tv f) := hK ▸ ps_fld ha hv hs
theorem pg_tupK {X : Cx} {es : List Expr} {k n : Nat} {pos : Pos} {t : TGs} (K : PySem.W.Frag) (hK : X.K = K) (hc : X.calm = true) (h : PGs X es t)
    (hn : (assignEach es X.env).length = n := by rfl) (hst : (assignEach es X.env).findIdx? (·.1) = none := by rfl) : PG X (.Tuple es k pos) (gTup K n t) := hK ▸ pg_tup hc h hn hst
theorem pi_enumK {X : Cx} {e : Expr} {ta : TA} {p pos tpos : Pos} {elts : List Expr} {kk : Nat} (K : PySem.W.Frag) (hK : X.K = K) (hg : Gl X "enumerate") (hm : X.mg "enumerate" = none) (ha : PA X [e] ta) (hs : starEach [e] X.env = [(false, eval e X.env)] := by rfl) :
    PI X (.Tuple elts kk tpos) (.Call (.Name "enumerate" p) [e] [] pos) (iEnum K ta) := hK ▸ pi_enum hg hm ha hs
theorem pi_enumSK {X : Cx} {e : Expr} {ta : TA} {p pos tpos : Pos} {elts : List Expr} {kk : Nat} (K : PySem.W.Frag) (hK : X.K = K) (hg : Gl X "enumerate") (hm : X.mg "enumerate" = none) (ha : PA X [e] ta) (hs : starEach [e] X.env = [(false, eval e X.env)] := by rfl) :
    PI X (.Tuple elts kk tpos) (.Call (.Name "enumerate" p) [e] [] pos) (iEnumS K ta) := hK ▸ pi_enumS hg hm ha hs
theorem pi_zipK {X : Cx} {e e2 : Expr} {ta : TA} {p pos tpos : Pos} {elts : List Expr} {kk : Nat} (K : PySem.W.Frag) (hK : X.K = K) (hg : Gl X "zip") (hm : X.mg "zip" = none) (ha : PA X [e, e2] ta)
    (hs : starEach [e, e2] X.env = (false, eval e X.env) :: starEach [e2] X.env := by rfl) (hpl : (backTo pos (starEach [e2] X.env)).any (·.1) = false := by rfl) :
    PI X (.Tuple elts kk tpos) (.Call (.Name "zip" p) [e, e2] [] pos) (RZ.iZipA K ta) := hK ▸ RZ.pi_zipA hg hm ha hs hpl
section
variable {X : Cx} {o e : Expr} {es : List Expr} {to : TE} {t : TA} {name : Str} {apos cpos : Pos} {T id : String} {r : V → List V → Hp → VK → Prop}
theorem pe_bmK (K : PySem.W.Frag) (hK : X.K = K) (pa : PlainAttrs T) (slot : Slot T name id) (hty : typeOf (.builtin id) = pure (.type "method_descriptor")) (hm : MtM X id r) (ho : PE X o to) (ha : PA X (e :: es) t)
    (hbase : attributeBase o name X.env (eval o X.env) = eval o X.env := by rfl)
    (hfew : ((backTo cpos (starEach (e :: es) X.env)).all (fun x => !x.1) && (backToKw cpos (keywordEach [] X.env)).all (fun x => x.1.isSome)
      && decide ((e :: es).length + ([] : List Keyword).length + (if ([] : List Keyword).isEmpty then 0 else 1) < 30)) = true := by rfl)
    (hline : (apos.endLine == cpos.line) = true := by rfl) (hs : starEach (e :: es) X.env = (false, eval e X.env) :: starEach es X.env := by rfl) (hplain : (backTo cpos (starEach es X.env)).any (·.1) = false := by rfl) :
    PE X (.Call (.Attribute o name apos) (e :: es) [] cpos) (tBM K T r to t) := hK ▸ pe_bm pa slot hty hm ho ha hbase hfew hline hs hplain
theorem pe_bm0K (K : PySem.W.Frag) (hK : X.K = K) (pa : PlainAttrs T) (slot : Slot T name id) (hty : typeOf (.builtin id) = pure (.type "method_descriptor")) (hm : MtR X id r) (ho : PE X o to)
    (hbase : attributeBase o name X.env (eval o X.env) = eval o X.env := by rfl) (hline : (apos.endLine == cpos.line) = true := by rfl) : PE X (.Call (.Attribute o name apos) [] [] cpos) (tBM0 K T r to) := hK ▸ pe_bm0 pa slot hty hm ho hbase hline
theorem cr_allK (K : PySem.W.Frag) (hK : X.K = K) (hc : X.calm = true) : CallR X (.builtin "all") (rAll K) := hK ▸ cr_all hc
theorem cr_anyK (K : PySem.W.Frag) (hK : X.K = K) (hc : X.calm = true) : CallR X (.builtin "any") (rAny K) := hK ▸ cr_any hc
theorem cr_sumK (K : PySem.W.Frag) (hK : X.K = K) (hc : X.calm = true) : CallR X (.builtin "sum") (rSum K) := hK ▸ cr_sum hc
def rLenS (K : PySem.W.Frag) : List V → Hp → VK → Prop := fun xs H Q => ∃ p ys, xs = [.ref p] ∧ (SqL K H p ys ∨ SqT K H p ys) ∧ Q (.int ys.length) H
theorem call_len_seqK (K : PySem.W.Frag) (hK : X.K = K) : CallR X (.builtin "len") (rLenS K) := hK ▸ call_len_seq
def rListOf (K : PySem.W.Frag) : List V → Hp → VK → Prop := fun xs H Q => ∃ p ys, xs = [.ref p] ∧ (SqL K H p ys ∨ SqT K H p ys) ∧ ∀ l, H l = none → Q (.ref l) (upd H l (.lst ys))
theorem call_list_ofK (K : PySem.W.Frag) (hK : X.K = K) : CallR X (.type "list") (rListOf K) := hK ▸ call_list_of
def rTupOf (K : PySem.W.Frag) : List V → Hp → VK → Prop := fun xs H Q => ∃ p ys, xs = [.ref p] ∧ ((SqL K H p ys ∧ ∀ l, H l = none → Q (.ref l) (upd H l (.tup ys))) ∨ (SqT K H p ys ∧ Q (.ref p) H))
theorem call_tuple_ofK (K : PySem.W.Frag) (hK : X.K = K) : CallR X (.type "tuple") (rTupOf K) := hK ▸ call_tuple_of
theorem ix_listK (K : PySem.W.Frag) (hK : X.K = K) : IxR X (rIxL K) := hK ▸ ix_list
theorem ix_tupK (K : PySem.W.Frag) (hK : X.K = K) : IxR X (rIxT K) := hK ▸ ix_tup
theorem sl_listK (K : PySem.W.Frag) (hK : X.K = K) : SlR X (rSlL K) := hK ▸ sl_list
theorem sl_tupK (K : PySem.W.Frag) (hK : X.K = K) : SlR X (rSlT K) := hK ▸ sl_tup
theorem op_in_seqK (K : PySem.W.Frag) (hK : X.K = K) : OpR X (compareOp .In) (rIn K false) := hK ▸ op_in_seq
theorem op_notIn_seqK (K : PySem.W.Frag) (hK : X.K = K) : OpR X (compareOp .NotIn) (rIn K true) := hK ▸ op_notIn_seq
end
end K73
set_option maxRecDepth 100000
set_option maxHeartbeats 4000000
namespace K73
open Enc (At enc)
open PySem L2 Evl
section
variable {P : Program} {w : World} {K : PySem.W.Frag} {mg : Str → Option Value} {base : Heap}
abbrev s_is_list : Stmt := top 13
theorem sc_is_list : FnScope ["thing"] ["thing"] (defScope s_is_list) := ⟨rfl, rfl, rfl, by decide +kernel, rfl, by decide +kernel, by decide +kernel⟩
def sp_is_list : Sp := fun vs H Q _ => ∃ (v : V) (k : KN), vs = [v] ∧ Knd H v k ∧ ∀ H', Ex H H' → Q (.bl (decide (k = .lst) || decide (k = .tup))) H'
theorem has_is_list (T : Txt K mg) (d : Def K mg "is_list" s_is_list)   :
    Has P w K mg base CX0 "is_list" ["thing"] 1 sp_is_list := by
  obtain ⟨f, fd, F, m⟩ := d
  have sc := sc_is_list
  refine ⟨f, fd, F.ok (k := 0) sc (fun vs H Q E h => (by first | (obtain ⟨h, _⟩ := h; rw [h]; rfl) | (obtain ⟨_, h, _⟩ := h; rw [h]; rfl) | (obtain ⟨_, _, h, _⟩ := h; rw [h]; rfl) | (obtain ⟨_, _, _, h, _⟩ := h; rw [h]; rfl) | (obtain ⟨_, _, _, _, h, _⟩ := h; rw [h]; rfl) | (obtain ⟨_, _, _, _, _, h, _⟩ := h; rw [h]; rfl) | (obtain ⟨_, _, _, _, _, _, h, _⟩ := h; rw [h]; rfl) | (obtain ⟨_, _, _, _, _, _, _, h, _⟩ := h; rw [h]; rfl) | (obtain ⟨_, _, _, _, _, _, _, _, h, _⟩ := h; rw [h]; rfl) | (obtain ⟨_, _, _, _, _, _, _, _, _, h, _⟩ := h; rw [h]; rfl) | (obtain ⟨_, _, _, _, _, _, _, _, _, _, h, _⟩ := h; rw [h]; rfl))) (fun cdv A outer s H vs Q E hr h => ?_), m, F.kp, F.binds fun _ _ _ _ _ _ us hl => match us, hl with | [_], _ => rfl⟩
  obtain ⟨v, k, rfl, hk, q⟩ := h
  refine ⟨_, ((pss_one (ps_ret (pe_callB call_isT (by rfl) T.b_isinstance (by decide +kernel) (pa_cons (pv 0) (pa_cons (pe_tup (pa_cons (pe_bltn (v := .ty "list") (by rfl) T.b_list (by decide +kernel) rfl) (pa_cons (pe_bltn (v := .ty "tuple") (by rfl) T.b_tuple (by decide +kernel) rfl) pa_nil))) pa_nil)))))), ?_⟩
  refine ⟨_, rfl, (by show 2 ≤ sizeLine; decide), fun p hp => ⟨v, p, k, [.lst, .tup], rfl, upd_same, by decide, hk.mono (Ex.new hp), ?_⟩⟩
  have e : ([KN.lst, KN.tup].any fun b => k.sub b) = (decide (k = .lst) || decide (k = .tup)) := by cases k <;> rfl
  rw [e]
  exact q _ (Ex.new hp)
abbrev s_is_integer : Stmt := top 14
theorem sc_is_integer : FnScope ["thing"] ["thing"] (defScope s_is_integer) := ⟨rfl, rfl, rfl, by decide +kernel, rfl, by decide +kernel, by decide +kernel⟩
def sp_is_integer : Sp := fun vs H Q _ => ∃ (v : V) (k : KN), vs = [v] ∧ Knd H v k ∧ Q (.bl (decide (k = .int))) H
theorem has_is_integer (T : Txt K mg) (d : Def K mg "is_integer" s_is_integer)   :
    Has P w K mg base CX0 "is_integer" ["thing"] 1 sp_is_integer := by
  obtain ⟨f, fd, F, m⟩ := d
  have sc := sc_is_integer
  refine ⟨f, fd, F.ok (k := 0) sc (fun vs H Q E h => (by first | (obtain ⟨h, _⟩ := h; rw [h]; rfl) | (obtain ⟨_, h, _⟩ := h; rw [h]; rfl) | (obtain ⟨_, _, h, _⟩ := h; rw [h]; rfl) | (obtain ⟨_, _, _, h, _⟩ := h; rw [h]; rfl) | (obtain ⟨_, _, _, _, h, _⟩ := h; rw [h]; rfl) | (obtain ⟨_, _, _, _, _, h, _⟩ := h; rw [h]; rfl) | (obtain ⟨_, _, _, _, _, _, h, _⟩ := h; rw [h]; rfl) | (obtain ⟨_, _, _, _, _, _, _, h, _⟩ := h; rw [h]; rfl) | (obtain ⟨_, _, _, _, _, _, _, _, h, _⟩ := h; rw [h]; rfl) | (obtain ⟨_, _, _, _, _, _, _, _, _, h, _⟩ := h; rw [h]; rfl) | (obtain ⟨_, _, _, _, _, _, _, _, _, _, h, _⟩ := h; rw [h]; rfl))) (fun cdv A outer s H vs Q E hr h => ?_), m, F.kp, F.binds fun _ _ _ _ _ _ us hl => match us, hl with | [_], _ => rfl⟩
  obtain ⟨v, k, rfl, hk, q⟩ := h
  refine ⟨_, ((pss_one (ps_ret (pe_and (pe_callB call_is (by rfl) T.b_isinstance (by decide +kernel) (pa_cons (pv 0) (pa_cons (pe_bltn (v := .ty "int") (by rfl) T.b_int (by decide +kernel) rfl) pa_nil))) (pe_one (pe_not (pe_callB call_is (by rfl) T.b_isinstance (by decide +kernel) (pa_cons (pv 0) (pa_cons (pe_bltn (v := .ty "bool") (by rfl) T.b_bool (by decide +kernel) rfl) pa_nil))))))))), ?_⟩
  refine ⟨_, rfl, v, k, .int, rfl, by decide, hk, _, rfl, ?_⟩
  cases k <;> first | exact ⟨_, rfl, _, _, .bl, rfl, by decide, hk, _, rfl, q⟩ | exact q
/-! ### names -/
def isNm (x : Str) : Bool := decide (0 < x.length ∧ x.length ≤ 12) && (match x.cps.toList.head? with | some c => decide (c ∈ smallS.cps.toList) | none => false) && x.cps.toList.all fun c => decide (c ∈ (smallS ++ figS).cps.toList)
def nmV : V → Bool
  | .str x => isNm x
  | _ => false
abbrev s_is_name : Stmt := top 15
theorem sc_is_name : FnScope ["thing", "sign"] ["thing"] (defScope s_is_name) := ⟨rfl, rfl, rfl, by decide +kernel, rfl, by decide +kernel, by decide +kernel⟩
def sp_is_name : Sp := fun vs H Q _ => ∃ (v : V) (k : KN), vs = [v] ∧ Knd H v k ∧ (∀ x, v = .str x → x.length ≤ 1000) ∧ ∀ H', Ex H H' → Q (.bl (nmV v)) H'
theorem has_is_name (T : Txt K mg) (d : Def K mg "is_name" s_is_name)   :
    Has P w K mg base CX0 "is_name" ["thing"] 1 sp_is_name := by
  obtain ⟨f, fd, F, m⟩ := d
  have sc := sc_is_name
  refine ⟨f, fd, F.ok (k := 0) sc (fun vs H Q E h => (by first | (obtain ⟨h, _⟩ := h; rw [h]; rfl) | (obtain ⟨_, h, _⟩ := h; rw [h]; rfl) | (obtain ⟨_, _, h, _⟩ := h; rw [h]; rfl) | (obtain ⟨_, _, _, h, _⟩ := h; rw [h]; rfl) | (obtain ⟨_, _, _, _, h, _⟩ := h; rw [h]; rfl) | (obtain ⟨_, _, _, _, _, h, _⟩ := h; rw [h]; rfl) | (obtain ⟨_, _, _, _, _, _, h, _⟩ := h; rw [h]; rfl) | (obtain ⟨_, _, _, _, _, _, _, h, _⟩ := h; rw [h]; rfl) | (obtain ⟨_, _, _, _, _, _, _, _, h, _⟩ := h; rw [h]; rfl) | (obtain ⟨_, _, _, _, _, _, _, _, _, h, _⟩ := h; rw [h]; rfl) | (obtain ⟨_, _, _, _, _, _, _, _, _, _, h, _⟩ := h; rw [h]; rfl))) (fun cdv A outer s H vs Q E hr h => ?_), m, F.kp, F.binds fun _ _ _ _ _ _ us hl => match us, hl with | [_], _ => rfl⟩
  obtain ⟨v, k, rfl, hk, hl, q⟩ := h
  refine ⟨_, ((pss_cons (ps_if (PW.pt (pw_or (pt_not (pt_val (pe_callB call_is (by rfl) T.b_isinstance (by decide +kernel) (pa_cons (pv 0) (pa_cons (pe_bltn (v := .ty "str") (by rfl) T.b_str (by decide +kernel) rfl) pa_nil))))) (pw_or (pt_not (pt_chain op_lt op_le pe_int (pe_callB call_len_str (by rfl) T.b_len (by decide +kernel) (pa_cons (pv 0) pa_nil)) pe_int)) (pw_or1 (pt_cmpR op_notIn_sign (pe_ix ix_str (pv 0) pe_int (fun _ _ => rfl)) (pe_glob (v := .str smallS) rfl T.g_SMALL ⟨_, rfl⟩) (by rfl))))))
      (pss_one (ps_ret pe_bl))
      pss_nil)
    (pss_one (ps_ret (pe_callB (cr_allK K rfl rfl) (by rfl) T.b_all (by decide +kernel) (pa_cons (pe_lc (own := [("sign", 1)]) rfl sc.nd (pi_str (pv 0)) (blkOk_by (own := [("sign", 1)]) (N := ["thing", "sign"]) (sc := defScope s_is_name) (by decide +kernel)) (fun _ _ _ _ _ => (pg_name (i := 1) sc.nd rfl (by first | exact Or.inl rfl | exact Or.inr rfl))) (fun _ _ _ _ _ => pts_nil) (fun _ _ _ _ _ => (pe_cmpR op_in_sign (pv 1) (pe_op op_add_str (pe_glob (v := .str smallS) rfl T.g_SMALL ⟨_, rfl⟩) (pe_glob (v := .str figS) rfl T.g_FIGURES ⟨_, rfl⟩)) (by rfl)))) pa_nil)))))), ?_⟩
  refine ⟨_, rfl, v, k, .str, rfl, by decide, hk, _, rfl, ?_⟩
  have no : ∀ c : Bool, k.sub .str = false → nmV v = false → (if (!k.sub .str) = true then (Q (.bl false) H : Prop) else True) := fun c h1 h2 => by
    rw [h1]
    show Q (.bl false) H
    rw [← h2]
    exact q H (Ex.refl H)
  cases hk with
  | str x =>
    show if (false : Bool) = true then _ else _
    refine iteF ?_
    have hx : x.length ≤ 1000 := hl x rfl
    have hsz : x.cps.toList.length = x.length := by simp [Str.length]
    refine ⟨_, rfl, x, rfl, Nat.le_trans hx (by decide), _, _, rfl, rfl, _, rfl, ?_⟩
    have e0 : decide ((0 : Int) < (x.length : Int)) = decide (0 < x.length) := decide_eq_decide.mpr (by omega)
    have e12 : decide ((x.length : Int) ≤ 12) = decide (x.length ≤ 12) := decide_eq_decide.mpr (by omega)
    have fall : ∀ c : Prop, isNm x = false → Q (.bl false) H := fun _ h2 => by
      have z := q H (Ex.refl H)
      have h3 : nmV (.str x) = false := h2
      rw [h3] at z
      exact z
    rw [e0]
    by_cases h0 : 0 < x.length
    · rw [decide_eq_true h0]
      refine iteT ⟨_, _, rfl, rfl, _, rfl, ?_⟩
      rw [e12]
      by_cases h1 : x.length ≤ 12
      · rw [decide_eq_true h1]
        refine iteF ?_
        obtain ⟨c, r, hc⟩ : ∃ c r, x.cps.toList = c :: r := by
          cases e : x.cps.toList with
          | nil => rw [e] at hsz; simp at hsz; omega
          | cons c r => exact ⟨c, r, rfl⟩
        refine ⟨_, rfl, x, 0, c, rfl, rfl, Nat.le_trans hx (by decide), atI_nat (j := 0) (by rw [hc]; rfl), c, smallS, rfl, rfl, _, rfl, ?_⟩
        by_cases h2 : c ∈ smallS.cps.toList
        · rw [decide_eq_true h2]
          refine iteF ?_
          -- return all([..])
          refine ⟨_, rfl, x, rfl, fun D hD => lcS (S := BlR) (f := fun c => some (decide (c ∈ (smallS ++ figS).cps.toList))) bl_stays hD (by rw [← Array.length_toList, hsz]; omega) (fun v c' H' e hv hm Kn Ky kn ky => ?_) (fun H' m => ?_)⟩
          · have hv' : v = .str ⟨#[c']⟩ := hv
            subst hv'
            refine ⟨rfl, _, rfl, smallS, figS, rfl, rfl, by decide, c', smallS ++ figS, rfl, rfl, ?_⟩
            exact ky _ _ _ (Ex.refl _) rfl fun _ _ _ => rfl
          · obtain ⟨_, ex, ws, hD', hp⟩ := m
            have ew := bls_eq hp
            refine ⟨D, _, rfl, SqL.of (by rw [hD', ew]), ?_⟩
            have e3 : ((x.cps.toList.filterMap fun c => some (decide (c ∈ (smallS ++ figS).cps.toList))).all id) = nmV (.str x) := by
              show _ = isNm x
              unfold isNm
              rw [decide_eq_true (show 0 < x.length ∧ x.length ≤ 12 from ⟨h0, h1⟩), hc]
              simp [h2, List.all_map, Function.comp_def]
            rw [e3]
            exact q _ ex
        · rw [decide_eq_false h2]
          refine iteT (fall True ?_)
          unfold isNm
          rw [hc]
          simp [h2]
      · rw [decide_eq_false h1]
        refine iteT (fall True ?_)
        unfold isNm
        simp [h1]
    · rw [decide_eq_false h0]
      refine iteF ⟨_, rfl, iteT (fall True ?_)⟩
      unfold isNm
      simp [h0]
  | _ => exact no true rfl rfl
def sp_none : Sp := fun _ _ _ _ => False
/-! ### things with tuples in the place of lists -/
abbrev s_as_tuples : Stmt := top 16
theorem sc_as_tuples : FnScope ["thing", "part"] ["thing"] (defScope s_as_tuples) := ⟨rfl, rfl, rfl, by decide +kernel, rfl, by decide +kernel, by decide +kernel⟩
/-- of a text: itself -/
def sp_as_tuples0 : Sp := fun vs H Q _ => ∃ x : Str, vs = [.str x] ∧ ∀ H', Ex H H' → Q (.str x) H'
theorem has_as_tuples0 (T : Txt K mg) (d : Def K mg "as_tuples" s_as_tuples) (d_is_list : Has P w K mg base CX0 "is_list" ["thing"] 1 sp_is_list) (d_as_tuples : Has P w K mg base CX0 "as_tuples" ["thing"] 0 sp_none)  :
    Has P w K mg base CX0 "as_tuples" ["thing"] 2 sp_as_tuples0 := by
  obtain ⟨f, fd, F, m⟩ := d
  have sc := sc_as_tuples
  refine ⟨f, fd, F.ok (k := 1) sc (fun vs H Q E h => (by first | (obtain ⟨h, _⟩ := h; rw [h]; rfl) | (obtain ⟨_, h, _⟩ := h; rw [h]; rfl) | (obtain ⟨_, _, h, _⟩ := h; rw [h]; rfl) | (obtain ⟨_, _, _, h, _⟩ := h; rw [h]; rfl) | (obtain ⟨_, _, _, _, h, _⟩ := h; rw [h]; rfl) | (obtain ⟨_, _, _, _, _, h, _⟩ := h; rw [h]; rfl) | (obtain ⟨_, _, _, _, _, _, h, _⟩ := h; rw [h]; rfl) | (obtain ⟨_, _, _, _, _, _, _, h, _⟩ := h; rw [h]; rfl) | (obtain ⟨_, _, _, _, _, _, _, _, h, _⟩ := h; rw [h]; rfl) | (obtain ⟨_, _, _, _, _, _, _, _, _, h, _⟩ := h; rw [h]; rfl) | (obtain ⟨_, _, _, _, _, _, _, _, _, _, h, _⟩ := h; rw [h]; rfl))) (fun cdv A outer s H vs Q E hr h => ?_), m, F.kp, F.binds fun _ _ _ _ _ _ us hl => match us, hl with | [_], _ => rfl⟩
  obtain ⟨x, rfl, q⟩ := h
  refine ⟨_, ((pss_one (ps_ret (pe_ifExp (pt_val (pe_has d_is_list (hr.mono (by decide)) pass0 (by exact (pa_cons (pv 0) pa_nil)))) (pe_callTy (call_tuple_ofK K rfl) (by rfl) T.b_tuple (by decide +kernel) (pa_cons (pe_lc (own := [("part", 1)]) rfl sc.nd (pi_seqK K rfl (pv 0)) (blkOk_by (own := [("part", 1)]) (N := ["thing", "part"]) (sc := defScope s_as_tuples) (by decide +kernel)) (fun _ _ _ _ _ => (pg_name (i := 1) sc.nd rfl (by first | exact Or.inl rfl | exact Or.inr rfl))) (fun _ _ _ _ _ => pts_nil) (fun _ _ _ _ _ => (pe_has d_as_tuples (hr.mono (by decide)) pass0 (by exact (pa_cons (pv 1) pa_nil))))) pa_nil)) (pv 0))))), ?_⟩
  exact ⟨_, rfl, _, _, rfl, .str x, fun H' e => ⟨false, rfl, iteF ⟨_, rfl, q H' e⟩⟩⟩
end
end K73
set_option maxRecDepth 100000
set_option maxHeartbeats 4000000
namespace K73
open Enc (At enc)
open PySem L2 Evl
abbrev Pr := Str × Str
/-! ### debates as plain data -/
def objectors (ps : List Pr) (n : Str) : List Str := (ps.filter fun p => decide (p.2 = n)).map (·.1)
def objected (ps : List Pr) (n : Str) : List Str := (ps.filter fun p => decide (p.1 = n)).map (·.2)
theorem mem_objectors {ps : List Pr} {n o : Str} : o ∈ objectors ps n ↔ (o, n) ∈ ps := by
  unfold objectors
  simp only [List.mem_map, List.mem_filter, decide_eq_true_eq]
  constructor
  · rintro ⟨⟨a, b⟩, ⟨h1, h2⟩, h3⟩
    have e1 : b = n := h2
    have e2 : a = o := h3
    rw [← e1, ← e2]
    exact h1
  · intro h
    exact ⟨(o, n), ⟨h, rfl⟩, rfl⟩
theorem mem_objected {ps : List Pr} {n o : Str} : o ∈ objected ps n ↔ (n, o) ∈ ps := by
  unfold objected
  simp only [List.mem_map, List.mem_filter, decide_eq_true_eq]
  constructor
  · rintro ⟨⟨a, b⟩, ⟨h1, h2⟩, h3⟩
    have e1 : a = n := h2
    have e2 : b = o := h3
    rw [← e1, ← e2]
    exact h1
  · intro h
    exact ⟨(n, o), ⟨h, rfl⟩, rfl⟩
theorem objectors_snoc (ps : List Pr) (p : Pr) (n : Str) : objectors (ps ++ [p]) n = objectors ps n ++ (if p.2 = n then [p.1] else []) := by
  unfold objectors
  rw [List.filter_append, List.map_append]
  congr 1
  by_cases h : p.2 = n <;> simp [h]
theorem objected_snoc (ps : List Pr) (p : Pr) (n : Str) : objected (ps ++ [p]) n = objected ps n ++ (if p.1 = n then [p.2] else []) := by
  unfold objected
  rw [List.filter_append, List.map_append]
  congr 1
  by_cases h : p.1 = n <;> simp [h]
theorem objectors_len (ps : List Pr) (n : Str) : (objectors ps n).length ≤ ps.length := by
  unfold objectors
  rw [List.length_map]
  exact List.length_filter_le _ _
theorem objected_len (ps : List Pr) (n : Str) : (objected ps n).length ≤ ps.length := by
  unfold objected
  rw [List.length_map]
  exact List.length_filter_le _ _
/-! ### names are written in few signs -/
theorem alnum_low : ∀ c ∈ (smallS ++ figS).cps.toList, c < 0x110000 := by decide +kernel
theorem nm_ok {x : Str} (h : isNm x = true) : PyData.strOk x = true := by
  unfold isNm at h
  rw [Bool.and_eq_true] at h
  unfold PyData.strOk
  rw [← Array.all_toList, List.all_eq_true]
  intro c hc
  have := List.all_eq_true.mp h.2 c hc
  exact decide_eq_true (alnum_low c (of_decide_eq_true this))
theorem nm_len {x : Str} (h : isNm x = true) : x.length ≤ 12 := by
  unfold isNm at h
  rw [Bool.and_eq_true, Bool.and_eq_true] at h
  exact (of_decide_eq_true h.1.1).2
/-! ### lists of texts -/
theorem cut_take (xs : List V) (i : Nat) (h : i ≤ xs.length) : cutV xs none (some (i : Int)) = xs.take i := by
  unfold cutV
  rw [HT.sIx_none, HT.sIx_nat, List.drop_zero, Nat.min_eq_left h, Nat.sub_zero]
theorem cut_drop (xs : List V) (i : Nat) (h : i ≤ xs.length) : cutV xs (some (i : Int)) none = xs.drop i := by
  unfold cutV
  rw [HT.sIx_none, HT.sIx_nat, Nat.min_eq_left h]
  exact List.take_of_length_le (by rw [List.length_drop]; omega)
theorem map_get {α : Type} {f : α → V} {l : List α} {i : Nat} {v : V} (h : (l.map f)[i]? = some v) : ∃ x, l[i]? = some x ∧ v = f x := by
  rw [List.getElem?_map] at h
  cases e : l[i]? with
  | none => rw [e] at h; cases h
  | some x => rw [e] at h; exact ⟨x, rfl, (Option.some.inj h).symm⟩
theorem nodup_take {α : Type} {l : List α} {i : Nat} {x : α} (hn : l.Nodup) (h : l[i]? = some x) : x ∉ l.take i := by
  intro hm
  obtain ⟨j, hj, e⟩ := List.getElem_of_mem hm
  rw [List.length_take] at hj
  rw [List.getElem_take] at e
  obtain ⟨hi, e2⟩ := List.getElem?_eq_some_iff.mp h
  have := (List.getElem_inj hn).mp (e.trans e2.symm)
  omega
/-- all are names -/
def Nms (ns : List Str) : Prop := ∀ n ∈ ns, isNm n = true
theorem Nms.ok {ns : List Str} (h : Nms ns) : ∀ n ∈ ns, PyData.strOk n = true := fun n hn => nm_ok (h n hn)
theorem Nms.at_ {ns : List Str} {H : Hp} {p : Addr} (h : Nms ns) (hp : H p = some (.lst (ns.map V.str))) : At H (.ref p) ns := at_list hp (strs_each h.ok)
theorem at_strs {H : Hp} {v : V} {ns : List Str} (h : At H v ns) : ∃ p, v = .ref p ∧ H p = some (.lst (ns.map V.str)) := by
  obtain ⟨p, vs, rfl, hp, he⟩ := h
  exact ⟨p, rfl, by rw [hp, each_strs he]⟩
theorem srt_nms {ns : List Str} (h : Nms ns) : Nms (srt ns) := fun n hn => h n ((srt_perm ns).mem_iff.mp hn)
/-! ### a row of a dict by names -/
def rowsV (ns : List Str) (a : Str → Addr) : List (Key × V) := ns.map fun n => (Sum.inr n, V.ref (a n))
theorem valV_rows {ns : List Str} {a : Str → Addr} {n : Str} (h : n ∈ ns) : valV (rowsV ns a) (Sum.inr n) = some (.ref (a n)) := by
  induction ns with
  | nil => cases h
  | cons m ns ih =>
    by_cases e : m = n
    · subst e
      exact valV_pos (p := (Sum.inr m, V.ref (a m))) rfl
    · have h1 : n ∈ ns := by
        rcases List.mem_cons.mp h with q | q
        · exact absurd q.symm e
        · exact q
      have h2 : ¬ (Sum.inr m : Key) = Sum.inr n := fun q => e (Sum.inr.inj q)
      have h3 := valV_neg (p := ((Sum.inr m : Key), V.ref (a m))) (r := rowsV ns a) (k := Sum.inr n) h2
      exact h3.trans (ih h1)
theorem valV_rows_none {ns : List Str} {a : Str → Addr} {n : Str} (h : n ∉ ns) : valV (rowsV ns a) (Sum.inr n) = none := by
  induction ns with
  | nil => rfl
  | cons m ns ih =>
    have h1 : ¬ m = n := fun q => h (by rw [q]; exact List.mem_cons_self)
    have h2 : ¬ (Sum.inr m : Key) = Sum.inr n := fun q => h1 (Sum.inr.inj q)
    have h3 := valV_neg (p := ((Sum.inr m : Key), V.ref (a m))) (r := rowsV ns a) (k := Sum.inr n) h2
    exact h3.trans (ih fun q => h (List.mem_cons_of_mem _ q))
theorem rowsV_snoc (ns : List Str) (n : Str) (a : Str → Addr) (p : Addr) (h : n ∉ ns) : putK (rowsV ns a) (Sum.inr n) (.ref p) = rowsV (ns ++ [n]) (fun m => if m = n then p else a m) := by
  rw [putK_new _ (valV_rows_none h)]
  unfold rowsV
  rw [List.map_append, List.map_singleton]
  dsimp only
  rw [if_pos rfl]
  congr 1
  refine List.map_congr_left fun m hm => ?_
  rw [if_neg fun q => h (by rw [← q]; exact hm)]
end K73
set_option maxRecDepth 100000
set_option maxHeartbeats 4000000
namespace K73
open Enc (At enc)
open PySem L2 Evl
/-! ### the least lot, in plain Lean -/
/-- some one of ms objects x -/
def hitB (ps : List Pr) (ms : List Str) (x : Str) : Bool := ms.any fun y => decide ((y, x) ∈ ps)
theorem hitB_iff {ps : List Pr} {ms : List Str} {x : Str} : hitB ps ms x = true ↔ ∃ y ∈ ms, (y, x) ∈ ps := by
  unfold hitB
  simp [List.any_eq_true]
/-- all objectors of x are hit by ms -/
def ansB (ps : List Pr) (ms : List Str) (x : Str) : Bool := (objectors ps x).all fun o => hitB ps ms o
theorem ansB_iff {ps : List Pr} {ms : List Str} {x : Str} : ansB ps ms x = true ↔ ∀ o, (o, x) ∈ ps → ∃ y ∈ ms, (y, o) ∈ ps := by
  unfold ansB
  rw [List.all_eq_true]
  constructor
  · intro h o ho
    exact hitB_iff.mp (h o (mem_objectors.mpr ho))
  · intro h o ho
    exact hitB_iff.mpr (h o (mem_objectors.mp ho))
def answL (ns : List Str) (ps : List Pr) (ms : List Str) : List Str := ns.filter fun x => ansB ps ms x
theorem mem_answL {ns : List Str} {ps : List Pr} {ms : List Str} {x : Str} : x ∈ answL ns ps ms ↔ x ∈ ns ∧ ∀ o, (o, x) ∈ ps → ∃ y ∈ ms, (y, o) ∈ ps := by
  unfold answL
  rw [List.mem_filter, ansB_iff]
def iterL (ns : List Str) (ps : List Pr) : Nat → List Str
  | 0 => []
  | k + 1 => answL ns ps (iterL ns ps k)
def leastL (ns : List Str) (ps : List Pr) : List Str := iterL ns ps ns.length
section
variable {ns : List Str} {ps : List Pr}
theorem answL_mono {ms ms' : List Str} (h : ∀ x ∈ ms, x ∈ ms') : ∀ x ∈ answL ns ps ms, x ∈ answL ns ps ms' := fun x hx => by
  rw [mem_answL] at hx ⊢
  exact ⟨hx.1, fun o ho => let ⟨y, h1, h2⟩ := hx.2 o ho; ⟨y, h y h1, h2⟩⟩
theorem iterL_up : ∀ k, ∀ x ∈ iterL ns ps k, x ∈ iterL ns ps (k + 1)
  | 0, x, h => by cases h
  | k + 1, x, h => answL_mono (iterL_up k) x h
theorem iterL_mono {j k : Nat} (h : j ≤ k) : ∀ x ∈ iterL ns ps j, x ∈ iterL ns ps k := by
  induction k with
  | zero => rw [Nat.le_zero.mp h]; exact fun x h => h
  | succ k ih =>
    intro x hx
    by_cases e : j = k + 1
    · rw [← e]; exact hx
    · exact iterL_up k x (ih (by omega) x hx)
theorem iterL_sub (k : Nat) : (iterL ns ps k).Sublist ns := by
  cases k with
  | zero => exact List.nil_sublist _
  | succ k => exact List.filter_sublist
theorem iterL_in (k : Nat) : ∀ x ∈ iterL ns ps k, x ∈ ns := fun x h => (iterL_sub k).subset h
theorem filter_same {p q : Str → Bool} : ∀ {l : List Str}, (∀ x ∈ l, p x = true → q x = true) → (l.filter q).length ≤ (l.filter p).length → l.filter p = l.filter q
  | [], _, _ => rfl
  | a :: l, h, hl => by
    have sub : (l.filter p).length ≤ (l.filter q).length := by
      have : (l.filter p).Sublist (l.filter q) := by
        have e : l.filter p = (l.filter q).filter p := by
          rw [List.filter_filter]
          refine List.filter_congr fun x hx => ?_
          cases e : p x with
          | false => rfl
          | true => rw [h x (List.mem_cons_of_mem _ hx) e]; rfl
        rw [e]
        exact List.filter_sublist
      exact this.length_le
    rw [List.filter_cons, List.filter_cons] at hl ⊢
    cases hp : p a with
    | true =>
      have hq := h a List.mem_cons_self hp
      rw [hp, hq] at hl
      simp only [if_true, List.length_cons] at hl
      rw [hq]
      simp only [if_true]
      rw [filter_same (fun x hx => h x (List.mem_cons_of_mem _ hx)) (by omega)]
    | false =>
      cases hq : q a with
      | true =>
        rw [hp, hq] at hl
        simp at hl
        omega
      | false =>
        rw [hp, hq] at hl
        simp only [Bool.false_eq_true, if_false] at hl ⊢
        exact filter_same (fun x hx => h x (List.mem_cons_of_mem _ hx)) hl
theorem iterL_step (k : Nat) : iterL ns ps (k + 1) = iterL ns ps k ∨ (iterL ns ps k).length < (iterL ns ps (k + 1)).length := by
  by_cases h : (iterL ns ps k).length < (iterL ns ps (k + 1)).length
  · exact .inr h
  · refine .inl ?_
    cases k with
    | zero =>
      have h0 : (iterL ns ps (0 + 1)).length = 0 := by
        have : (iterL ns ps 0).length = 0 := rfl
        omega
      exact List.length_eq_zero_iff.mp h0
    | succ k =>
      refine (filter_same (fun x hx hp => ?_) (Nat.le_of_not_lt h)).symm
      have h1 : x ∈ iterL ns ps (k + 1) := List.mem_filter.mpr ⟨hx, hp⟩
      exact (List.mem_filter.mp (iterL_up _ x h1)).2
theorem iterL_stop {k : Nat} (h : iterL ns ps (k + 1) = iterL ns ps k) : ∀ j, k ≤ j → iterL ns ps j = iterL ns ps k
  | 0, hj => by rw [Nat.le_zero.mp hj]
  | j + 1, hj => by
    by_cases e : k = j + 1
    · rw [e]
    · have ih := iterL_stop h j (by omega)
      show answL ns ps (iterL ns ps j) = _
      rw [ih]
      exact h
theorem iterL_long : ∀ k, (∃ j, j ≤ k ∧ iterL ns ps (j + 1) = iterL ns ps j) ∨ k < (iterL ns ps (k + 1)).length
  | 0 => by
    rcases iterL_step (ns := ns) (ps := ps) 0 with h | h
    · exact .inl ⟨0, Nat.le_refl _, h⟩
    · exact .inr (Nat.lt_of_le_of_lt (Nat.zero_le _) h)
  | k + 1 => by
    rcases iterL_long k with ⟨j, hj, h⟩ | h
    · exact .inl ⟨j, by omega, h⟩
    · rcases iterL_step (ns := ns) (ps := ps) (k + 1) with h1 | h1
      · exact .inl ⟨k + 1, Nat.le_refl _, h1⟩
      · exact .inr (by omega)
/-- from the length of ns on nothing changes -/
theorem iterL_fix {k : Nat} (h : ns.length ≤ k) : iterL ns ps (k + 1) = iterL ns ps k := by
  rcases iterL_long (ns := ns) (ps := ps) k with ⟨j, hj, h1⟩ | h1
  · rw [iterL_stop h1 (k + 1) (by omega), iterL_stop h1 k hj]
  · have := (iterL_sub (ns := ns) (ps := ps) (k + 1)).length_le
    omega
theorem leastL_of {k : Nat} (h : iterL ns ps (k + 1) = iterL ns ps k) : iterL ns ps k = leastL ns ps := by
  unfold leastL
  by_cases hk : k ≤ ns.length
  · exact (iterL_stop h _ hk).symm
  · exact iterL_stop (iterL_fix (Nat.le_refl _)) k (by omega)
theorem leastL_fix : answL ns ps (leastL ns ps) = leastL ns ps := iterL_fix (Nat.le_refl _)
theorem iterL_least (k : Nat) : ∀ x ∈ iterL ns ps k, x ∈ leastL ns ps := fun x hx => by
  by_cases hk : k ≤ ns.length
  · exact iterL_mono hk x hx
  · have e : iterL ns ps k = leastL ns ps := iterL_stop (iterL_fix (Nat.le_refl _)) k (by omega)
    rw [← e]
    exact hx
theorem leastL_sub : (leastL ns ps).Sublist ns := iterL_sub _
/-- no one of the steps objects another -/
theorem iterL_calm : ∀ k, ∀ x ∈ iterL ns ps k, ∀ y ∈ iterL ns ps k, (y, x) ∉ ps
  | 0, x, h, _, _, _ => by cases h
  | k + 1, x, hx, y, hy, h => by
    obtain ⟨z, hz, h1⟩ := (mem_answL.mp hx).2 y h
    obtain ⟨u, hu, h2⟩ := (mem_answL.mp hy).2 z h1
    exact iterL_calm k z hz u hu h2
theorem leastL_calm : ∀ x ∈ leastL ns ps, ∀ y ∈ leastL ns ps, (y, x) ∉ ps := iterL_calm _
/-- only which names and pairs there are counts -/
theorem ansB_congr {ps ps' : List Pr} {ms ms' : List Str} (h : ∀ p, p ∈ ps ↔ p ∈ ps') (hm : ∀ x, x ∈ ms ↔ x ∈ ms') (x : Str) : ansB ps ms x = ansB ps' ms' x := by
  rw [Bool.eq_iff_iff, ansB_iff, ansB_iff]
  constructor
  · intro q o ho
    obtain ⟨y, h1, h2⟩ := q o ((h _).mpr ho)
    exact ⟨y, (hm y).mp h1, (h _).mp h2⟩
  · intro q o ho
    obtain ⟨y, h1, h2⟩ := q o ((h _).mp ho)
    exact ⟨y, (hm y).mpr h1, (h _).mpr h2⟩
theorem iterL_congr {ns ns' : List Str} {ps ps' : List Pr} (hn : ∀ x, x ∈ ns ↔ x ∈ ns') (h : ∀ p, p ∈ ps ↔ p ∈ ps') : ∀ k x, x ∈ iterL ns ps k ↔ x ∈ iterL ns' ps' k
  | 0, x => Iff.rfl
  | k + 1, x => by
    have ih := iterL_congr hn h k
    show x ∈ answL ns ps _ ↔ x ∈ answL ns' ps' _
    unfold answL
    rw [List.mem_filter, List.mem_filter, hn, ansB_congr h ih]
/-- over the same list of names the same lists -/
theorem iterL_eq {ps ps' : List Pr} (h : ∀ p, p ∈ ps ↔ p ∈ ps') : ∀ k, iterL ns ps k = iterL ns ps' k
  | 0 => rfl
  | k + 1 => by
    show answL ns ps _ = answL ns ps' _
    unfold answL
    rw [iterL_eq h k]
    exact List.filter_congr fun x _ => ansB_congr h (fun _ => Iff.rfl) x
theorem leastL_eq {ps ps' : List Pr} (h : ∀ p, p ∈ ps ↔ p ∈ ps') : leastL ns ps = leastL ns ps' := iterL_eq h _
end
end K73
set_option maxRecDepth 100000
set_option maxHeartbeats 4000000
namespace K73
open Enc (At enc)
open PySem L2 Evl
section
variable {P : Program} {w : World} {K : PySem.W.Frag} {mg : Str → Option Value} {base : Heap}
/-! ### things with tuples in the place of lists -/
/-- a pair of texts, borne by a list or a tuple -/
def LpR : Rel Pr := fun H v p => ∃ a, v = .ref a ∧ (H a = some (.lst [.str p.1, .str p.2]) ∨ H a = some (.tup [.str p.1, .str p.2]))
theorem lp_stays : Stays LpR := ⟨fun _ _ _ _ e ⟨a, h1, h2⟩ => ⟨a, h1, h2.imp (e _ _) (e _ _)⟩⟩
theorem lp_knd {H : Hp} {v : V} {p : Pr} (h : LpR H v p) : ∃ k, Knd H v k ∧ (decide (k = .lst) || decide (k = .tup)) = true := by
  obtain ⟨a, rfl, h | h⟩ := h
  · exact ⟨_, .lst h, rfl⟩
  · exact ⟨_, .tup h, rfl⟩
def sp_as_tuples : Sp := fun vs H Q _ => ∃ (v : V) (p : Pr), vs = [v] ∧ LpR H v p ∧ ∀ a H', H a = none → Ex H H' → H' a = some (.tup [.str p.1, .str p.2]) → Q (.ref a) H'
theorem has_as_tuples (T : Txt K mg) (d : Def K mg "as_tuples" s_as_tuples) (d_is_list : Has P w K mg base CX0 "is_list" ["thing"] 1 sp_is_list) (d_as_tuples : Has P w K mg base CX0 "as_tuples" ["thing"] 2 sp_as_tuples0)  :
    Has P w K mg base CX0 "as_tuples" ["thing"] 3 sp_as_tuples := by
  obtain ⟨f, fd, F, m⟩ := d
  have sc := sc_as_tuples
  refine ⟨f, fd, F.ok (k := 2) sc (fun vs H Q E h => (by first | (obtain ⟨h, _⟩ := h; rw [h]; rfl) | (obtain ⟨_, h, _⟩ := h; rw [h]; rfl) | (obtain ⟨_, _, h, _⟩ := h; rw [h]; rfl) | (obtain ⟨_, _, _, h, _⟩ := h; rw [h]; rfl) | (obtain ⟨_, _, _, _, h, _⟩ := h; rw [h]; rfl) | (obtain ⟨_, _, _, _, _, h, _⟩ := h; rw [h]; rfl) | (obtain ⟨_, _, _, _, _, _, h, _⟩ := h; rw [h]; rfl) | (obtain ⟨_, _, _, _, _, _, _, h, _⟩ := h; rw [h]; rfl) | (obtain ⟨_, _, _, _, _, _, _, _, h, _⟩ := h; rw [h]; rfl) | (obtain ⟨_, _, _, _, _, _, _, _, _, h, _⟩ := h; rw [h]; rfl) | (obtain ⟨_, _, _, _, _, _, _, _, _, _, h, _⟩ := h; rw [h]; rfl))) (fun cdv A outer s H vs Q E hr h => ?_), m, F.kp, F.binds fun _ _ _ _ _ _ us hl => match us, hl with | [_], _ => rfl⟩
  obtain ⟨v, ⟨x, y⟩, rfl, hv, q⟩ := h
  refine ⟨_, ((pss_one (ps_ret (pe_ifExp (pt_val (pe_has d_is_list (hr.mono (by decide)) pass0 (by exact (pa_cons (pv 0) pa_nil)))) (pe_callTy (call_tuple_ofK K rfl) (by rfl) T.b_tuple (by decide +kernel) (pa_cons (pe_lc (own := [("part", 1)]) rfl sc.nd (pi_seqK K rfl (pv 0)) (blkOk_by (own := [("part", 1)]) (N := ["thing", "part"]) (sc := defScope s_as_tuples) (by decide +kernel)) (fun _ _ _ _ _ => (pg_name (i := 1) sc.nd rfl (by first | exact Or.inl rfl | exact Or.inr rfl))) (fun _ _ _ _ _ => pts_nil) (fun _ _ _ _ _ => (pe_has d_as_tuples (hr.mono (by decide)) pass0 (by exact (pa_cons (pv 1) pa_nil))))) pa_nil)) (pv 0))))), ?_⟩
  obtain ⟨k, hk, hb⟩ := lp_knd hv
  refine ⟨_, rfl, v, k, rfl, hk, fun H1 e1 => ⟨true, congrArg V.bl hb, ?_⟩⟩
  have hv1 := lp_stays.go _ _ _ _ e1 hv
  have fin : ∀ (D : Addr) (H2 : Hp), Made VR H1 D ([V.str x, V.str y].filterMap some) H2 → ∃ p ys, [V.ref D] = [V.ref p] ∧ ((SqL K H2 p ys ∧ ∀ l, H2 l = none → Q (.ref l) (upd H2 l (.tup ys))) ∨ SqT K H2 p ys ∧ Q (.ref p) H2) := fun D H2 m => by
    obtain ⟨_, ex, ws, hD', hp⟩ := m
    have ew : ws = [V.str x, V.str y] := vr_eq hp
    rw [ew] at hD'
    exact ⟨D, _, rfl, Or.inl ⟨SqL.of hD', fun l hl => q l _ (fresh_back (e1.trans ex) hl) ((e1.trans ex).trans (Ex.new hl)) upd_same⟩⟩
  have turn : ∀ (v' x' : V) (H' : Hp), Ex H1 H' → VR H' v' x' → x' ∈ [V.str x, V.str y] → Turn1 VR (some x') (gName 1) tYes (tCall sp_as_tuples0 [] E0 (tCons (tVar 1) tNil)) [1] (L2.start ["thing", "part"] [v]) v' H1 H' := by
    intro v' x' H' e' hv' hx' Kn Ky kn ky
    have e2 : v' = x' := hv'
    subst e2
    obtain ⟨z, rfl⟩ : ∃ z, v' = V.str z := by
      rcases List.mem_cons.mp hx' with q | q
      · exact ⟨_, q⟩
      · exact ⟨_, List.mem_singleton.mp q⟩
    exact ⟨rfl, _, rfl, z, rfl, fun H2 e2 => ky _ _ _ e2 rfl fun _ _ _ => rfl⟩
  obtain ⟨a, rfl, ha⟩ := hv1
  rcases ha with ha | ha
  · exact ⟨_, rfl, a, rfl, Or.inl ⟨_, SqL.of ha, fun D hD => lcL (f := some) v_stays v_stays (fun _ e => SqL.of (e _ _ ha)) (vr_self _) hD (by show 2 ≤ 100000; omega) turn fun H2 m => fin D H2 m⟩⟩
  · exact ⟨_, rfl, a, rfl, Or.inr ⟨_, SqT.of ha, fun D hD => lcT (f := some) v_stays v_stays (fun _ e => SqT.of (e _ _ ha)) (vr_self _) hD (by show 2 ≤ 100000; omega) turn fun H2 m => fin D H2 m⟩⟩
/-! ### the checks of statements and objections -/
abbrev s_checked_statements : Stmt := top 18
theorem sc_checked_statements : FnScope ["statements", "index", "thing"] ["statements"] (defScope s_checked_statements) := ⟨rfl, rfl, rfl, by decide +kernel, rfl, by decide +kernel, by decide +kernel⟩
def sp_checked_statements : Sp := fun vs H Q _ => ∃ (a : Addr) (ns : List Str), vs = [.ref a] ∧ H a = some (.lst (ns.map V.str)) ∧ ns.Nodup ∧ Nms ns ∧ ns.length ≤ 1000 ∧
  ∀ p H', H p = none → Ex H H' → H' p = some (.lst ((srt ns).map V.str)) → Q (.ref p) H'
theorem has_checked_statements (T : Txt K mg) (d : Def K mg "checked_statements" s_checked_statements) (d_is_list : Has P w K mg base CX0 "is_list" ["thing"] 1 sp_is_list) (d_is_name : Has P w K mg base CX0 "is_name" ["thing"] 1 sp_is_name)  :
    Has P w K mg base CX0 "checked_statements" ["statements"] 3 sp_checked_statements := by
  obtain ⟨f, fd, F, m⟩ := d
  have sc := sc_checked_statements
  refine ⟨f, fd, F.ok (k := 2) sc (fun vs H Q E h => (by first | (obtain ⟨h, _⟩ := h; rw [h]; rfl) | (obtain ⟨_, h, _⟩ := h; rw [h]; rfl) | (obtain ⟨_, _, h, _⟩ := h; rw [h]; rfl) | (obtain ⟨_, _, _, h, _⟩ := h; rw [h]; rfl) | (obtain ⟨_, _, _, _, h, _⟩ := h; rw [h]; rfl) | (obtain ⟨_, _, _, _, _, h, _⟩ := h; rw [h]; rfl) | (obtain ⟨_, _, _, _, _, _, h, _⟩ := h; rw [h]; rfl) | (obtain ⟨_, _, _, _, _, _, _, h, _⟩ := h; rw [h]; rfl) | (obtain ⟨_, _, _, _, _, _, _, _, h, _⟩ := h; rw [h]; rfl) | (obtain ⟨_, _, _, _, _, _, _, _, _, h, _⟩ := h; rw [h]; rfl) | (obtain ⟨_, _, _, _, _, _, _, _, _, _, h, _⟩ := h; rw [h]; rfl))) (fun cdv A outer s H vs Q E hr h => ?_), m, F.kp, F.binds fun _ _ _ _ _ _ us hl => match us, hl with | [_], _ => rfl⟩
  obtain ⟨a, ns, rfl, ha, hn, hm, hl, q⟩ := h
  refine ⟨_, ((pss_cons (ps_if (pt_not (pt_val (pe_has d_is_list (hr.mono (by decide)) pass0 (by exact (pa_cons (pv 0) pa_nil)))))
      pss_never
      pss_nil)
    (pss_cons (ps_for PassesOwn.never rfl (pi_enumK K rfl (by rfl) T.b_enumerate (pa_cons (pv 0) pa_nil)) (pg_tupK (n := 2) K rfl rfl (pgs_cons (pg_name (i := 1) sc.nd rfl (by first | exact Or.inl rfl | exact Or.inr rfl)) (pgs_cons (pg_name (i := 2) sc.nd rfl (by first | exact Or.inl rfl | exact Or.inr rfl)) pgs_nil)))
      (pss_one (ps_if (PW.pt (pw_or (pt_not (pt_val (pe_has d_is_name (hr.mono (by decide)) pass0 (by exact (pa_cons (pv 2) pa_nil))))) (pw_or1 (pt_cmpR (op_inA (α := Str) (by decide) (hu65 hr)) (pv 2) (pe_slice (sl_listK K rfl) (pv 0) po_none (po_some (pv 1))) (by rfl)))))
        pss_never
        pss_nil)))
    (pss_one (ps_ret (pe_callB (cr_srt (α := Str) (by decide) (hu64 hr)) (by rfl) T.b_sorted (by decide +kernel) (pa_cons (pv 0) pa_nil))))))), ?_⟩
  refine ⟨_, rfl, _, _, rfl, .lst ha, fun H1 e1 => ⟨true, rfl, iteF ?_⟩⟩
  refine ⟨_, rfl, a, _, rfl, SqL.of (e1 _ _ ha), forG ns.length (fun i σ H' => (∃ u v, σ = [some (.ref a), u, v]) ∧ Ex H H') ⟨⟨_, _, rfl⟩, e1⟩ (fun i σ H' hi ⟨_, e⟩ => ?_) (fun σ H' ⟨_, e⟩ => ⟨_, SqL.of (e _ _ ha), by rw [List.length_map]; exact Nat.le_refl _⟩) ?_ ?_⟩
  · exact ⟨_, V.str ns[i], SqL.of (e _ _ ha), by rw [List.getElem?_map, List.getElem?_eq_getElem hi]; rfl⟩
  · rintro i σ H' x H2 hi ⟨⟨u, v, rfl⟩, e⟩ ⟨Tp, y, rfl, hT, rfl, hy⟩
    obtain ⟨n, hn', rfl⟩ := map_get (hy _ (SqL.of (e _ _ ha)))
    have e2 := e.trans (Ex.new (o := .tup [.int ((i : Nat) : Int), .str n]) hT)
    have hnm : isNm n = true := hm n (List.mem_of_getElem? hn')
    refine ⟨Tp, _, rfl, SqT.of upd_same, rfl, _, _, rfl, _, _, rfl, ⟨rfl, ?_⟩⟩
    refine ⟨_, rfl, _, .str, rfl, .str n, fun x hx => by cases hx; exact Nat.le_trans (nm_len hnm) (by omega), fun H3 e3 => ⟨true, congrArg V.bl (show nmV (.str n) = true from hnm), iteF ?_⟩⟩
    have ha3 := e3 _ _ (e2 _ _ ha)
    refine ⟨_, rfl, _, rfl, _, rfl, _, rfl, a, _, rfl, SqL.of ha3, fun p hp => ?_⟩
    rw [cut_take _ _ (by rw [List.length_map]; omega), ← List.map_take]
    refine ⟨n, ns.take i, at_str (nm_ok hnm), at_list upd_same (strs_each fun x hx => hm.ok x (List.mem_of_mem_take hx)), _, rfl, ?_⟩
    rw [decide_eq_false (nodup_take hn hn')]
    refine iteF ⟨⟨_, _, rfl⟩, e2.trans (e3.trans (Ex.new hp))⟩
  · rintro σ H' ⟨⟨u, v, rfl⟩, e⟩
    refine ⟨_, rfl, _, ns, rfl, hm.at_ (e _ _ ha), fun p ws hp hw => q p _ (fresh_back e hp) (e.trans (Ex.new hp)) ?_⟩
    rw [each_strs hw]
    exact upd_same
abbrev s_is_pair_of : Stmt := top 19
theorem sc_is_pair_of : FnScope ["thing", "statements", "one"] ["thing", "statements"] (defScope s_is_pair_of) := ⟨rfl, rfl, rfl, by decide +kernel, rfl, by decide +kernel, by decide +kernel⟩
def sp_is_pair_of : Sp := fun vs H Q _ => ∃ (v : V) (b : Addr) (p : Pr) (ns : List Str), vs = [v, .ref b] ∧ LpR H v p ∧ H b = some (.lst (ns.map V.str)) ∧ Nms ns ∧ p.1 ∈ ns ∧ p.2 ∈ ns ∧ ∀ H', Ex H H' → Q (.bl true) H'
theorem has_is_pair_of (T : Txt K mg) (d : Def K mg "is_pair_of" s_is_pair_of) (d_is_list : Has P w K mg base CX0 "is_list" ["thing"] 1 sp_is_list)  :
    Has P w K mg base CX0 "is_pair_of" ["thing", "statements"] 2 sp_is_pair_of := by
  obtain ⟨f, fd, F, m⟩ := d
  have sc := sc_is_pair_of
  refine ⟨f, fd, F.ok (k := 1) sc (fun vs H Q E h => (by first | (obtain ⟨h, _⟩ := h; rw [h]; rfl) | (obtain ⟨_, h, _⟩ := h; rw [h]; rfl) | (obtain ⟨_, _, h, _⟩ := h; rw [h]; rfl) | (obtain ⟨_, _, _, h, _⟩ := h; rw [h]; rfl) | (obtain ⟨_, _, _, _, h, _⟩ := h; rw [h]; rfl) | (obtain ⟨_, _, _, _, _, h, _⟩ := h; rw [h]; rfl) | (obtain ⟨_, _, _, _, _, _, h, _⟩ := h; rw [h]; rfl) | (obtain ⟨_, _, _, _, _, _, _, h, _⟩ := h; rw [h]; rfl) | (obtain ⟨_, _, _, _, _, _, _, _, h, _⟩ := h; rw [h]; rfl) | (obtain ⟨_, _, _, _, _, _, _, _, _, h, _⟩ := h; rw [h]; rfl) | (obtain ⟨_, _, _, _, _, _, _, _, _, _, h, _⟩ := h; rw [h]; rfl))) (fun cdv A outer s H vs Q E hr h => ?_), m, F.kp, F.binds fun _ _ _ _ _ _ us hl => match us, hl with | [_, _], _ => rfl⟩
  obtain ⟨v, b, ⟨x, y⟩, ns, rfl, hv, hb, hm, hx, hy, q⟩ := h
  refine ⟨_, ((pss_one (ps_ret (pe_and (pe_has d_is_list (hr.mono (by decide)) pass0 (by exact (pa_cons (pv 0) pa_nil))) (pe_and (pe_cmpR op_eq (pe_callB (call_len_seqK K rfl) (by rfl) T.b_len (by decide +kernel) (pa_cons (pv 0) pa_nil)) pe_int (nomark _)) (pe_one (pe_callB (cr_allK K rfl rfl) (by rfl) T.b_all (by decide +kernel) (pa_cons (pe_lc (own := [("one", 2)]) rfl sc.nd (pi_seqK K rfl (pv 0)) (blkOk_by (own := [("one", 2)]) (N := ["thing", "statements", "one"]) (sc := defScope s_is_pair_of) (by decide +kernel)) (fun _ _ _ _ _ => (pg_name (i := 2) sc.nd rfl (by first | exact Or.inl rfl | exact Or.inr rfl))) (fun _ _ _ _ _ => pts_nil) (fun _ _ _ _ _ => (pe_and (pe_callB call_is (by rfl) T.b_isinstance (by decide +kernel) (pa_cons (pv 2) (pa_cons (pe_bltn (v := .ty "str") (by rfl) T.b_str (by decide +kernel) rfl) pa_nil))) (pe_one (pe_cmpR (op_inA (α := Str) (by decide) (hu65 hr)) (pv 2) (pv 1) (by rfl)))))) pa_nil)))))))), ?_⟩
  obtain ⟨k, hk, hkb⟩ := lp_knd hv
  refine ⟨_, rfl, v, k, rfl, hk, fun H1 e1 => ⟨true, congrArg V.bl hkb, ?_⟩⟩
  have hv1 := lp_stays.go _ _ _ _ e1 hv
  have hb1 := e1 _ _ hb
  have fin : ∀ (D : Addr) (H2 : Hp), Made BlR H1 D ([V.str x, V.str y].filterMap fun _ => some true) H2 → ∃ (a : Addr) (bs : List Bool), [V.ref D] = [V.ref a] ∧ SqL K H2 a (bs.map V.bl) ∧ Q (.bl (bs.all id)) H2 := fun D H2 m => by
    obtain ⟨_, ex, ws, hD', hp⟩ := m
    rw [bls_eq hp] at hD'
    exact ⟨D, _, rfl, SqL.of hD', q _ (e1.trans ex)⟩
  have turn : ∀ (v' x' : V) (H' : Hp), Ex H1 H' → VR H' v' x' → x' ∈ [V.str x, V.str y] → Turn1 BlR (some true) (gName 2) tYes (tAndV (tCB rIs (tCons (tVar 2) (tCons (tC (.ty "str")) tNil))) (tOp (rInA Str) (tVar 2) (tVar 1))) [2] (L2.start ["thing", "statements", "one"] [v, .ref b]) v' H1 H' := by
    intro v' x' H' e' hv' hx' Kn Ky kn ky
    have e2 : v' = x' := hv'
    subst e2
    obtain ⟨z, hz, rfl⟩ : ∃ z, z ∈ ns ∧ v' = V.str z := by
      rcases List.mem_cons.mp hx' with q | q
      · exact ⟨_, hx, q⟩
      · exact ⟨_, hy, List.mem_singleton.mp q⟩
    refine ⟨rfl, _, rfl, _, .str, .str, rfl, by decide, .str z, true, rfl, ?_⟩
    refine ⟨_, rfl, _, rfl, z, ns, at_str (hm.ok z hz), hm.at_ (e' _ _ hb1), ?_⟩
    rw [decide_eq_true hz]
    exact ky _ _ _ (Ex.refl _) rfl fun _ _ _ => rfl
  obtain ⟨a, rfl, ha⟩ := hv1
  rcases ha with ha | ha
  · refine ⟨_, rfl, a, _, rfl, Or.inl (SqL.of ha), rfl, true, rfl, ?_⟩
    exact ⟨_, rfl, a, rfl, Or.inl ⟨_, SqL.of ha, fun D hD => lcL (f := fun _ => some true) v_stays bl_stays (fun _ e => SqL.of (e _ _ ha)) (vr_self _) hD (by show 2 ≤ 100000; omega) turn fun H2 m => fin D H2 m⟩⟩
  · refine ⟨_, rfl, a, _, rfl, Or.inr (SqT.of ha), rfl, true, rfl, ?_⟩
    exact ⟨_, rfl, a, rfl, Or.inr ⟨_, SqT.of ha, fun D hD => lcT (f := fun _ => some true) v_stays bl_stays (fun _ e => SqT.of (e _ _ ha)) (vr_self _) hD (by show 2 ≤ 100000; omega) turn fun H2 m => fin D H2 m⟩⟩
end
end K73
set_option maxRecDepth 100000
set_option maxHeartbeats 4000000
namespace K73
open Enc (At enc)
open PySem L2 Evl
/-! ### a dict comprehension over whatever is walked -/
theorem dcG {J : It} {g : TG} {tt : TT} {tk tv : TE} {ws : List Nat} {σ : L2.St} {H1 : Hp} {D : Addr} {Qd : Hp → Prop} (n : Nat) (Pv : Nat → Hp → Prop) (h0 : Pv 0 (upd H1 D (.dK []))) (go : ∀ i H', i < n → Pv i H' → J.go i H') (stop : ∀ H', Pv n H' → J.stop n H')
    (hs : ∀ i H' x H2, i < n → Pv i H' → J.yld i H' x H2 → g x (wipe σ ws) H2 fun σ2 H3 => wipe σ2 ws = wipe σ ws ∧ tt σ2 H3 fun b H4 =>
      if b = true then tk σ2 H4 fun y H5 => tv σ2 H5 fun z H6 => ∃ kvs k, y = kV k ∧ H6 D = some (.dK kvs) ∧ kvs.length < sizeLine ∧ Pv (i + 1) (upd H6 D (.dK (putK kvs k z))) else Pv (i + 1) H4) (hd : ∀ H', Pv n H' → Qd H') :
    ∃ W : Nat → Nat → Hp → Prop, (∃ m, W 0 m (upd H1 D (.dK []))) ∧ ∀ i m H, W i m H →
      (J.stop i H ∧ Qd H) ∨ (J.go i H ∧ ∃ Nx : Hp → Prop, (∀ H', Nx H' → ∃ m', m' < m ∧ W (i + 1) m' H') ∧ ∀ x H', J.yld i H x H' → g x (wipe σ ws) H' fun σ2 H2 => wipe σ2 ws = wipe σ ws ∧ tt σ2 H2 fun b H3 =>
        if b = true then tk σ2 H3 fun y H4 => tv σ2 H4 fun z H5 => ∃ kvs k, y = kV k ∧ H5 D = some (.dK kvs) ∧ kvs.length < sizeLine ∧ Nx (upd H5 D (.dK (putK kvs k z))) else Nx H3) := by
  refine ⟨fun i m H' => m + i = n ∧ Pv i H', ⟨n, rfl, h0⟩, ?_⟩
  rintro i m H' ⟨hm, hp⟩
  by_cases hi : i < n
  · exact .inr ⟨go i _ hi hp, Pv (i + 1), fun H2 p2 => ⟨n - (i + 1), by omega, by omega, p2⟩, fun x H2 hy => hs i _ x H2 hi hp hy⟩
  · have e : i = n := by omega
    subst e
    exact .inl ⟨stop _ hp, hd _ hp⟩
theorem for_pick {J : It} {ti : TI} {g : TG} {tb : TS} {D : Ends} {σ : L2.St} {H H1 : Hp} (hp : ∀ R : It → Hp → Prop, R J H1 → ti σ H R) (h : ∃ W : Nat → Nat → L2.St → Hp → Prop, (∃ m, W 0 m σ H1) ∧ ∀ i m σ H, W i m σ H →
      (J.stop i H ∧ D.nx σ H) ∨ (J.go i H ∧ ∃ N : L2.St → Hp → Prop, (∀ σ' H', N σ' H' → ∃ m', m' < m ∧ W (i + 1) m' σ' H') ∧ ∀ x H', J.yld i H x H' → g x σ H' fun σ2 H2 => tb { D with nx := N, ct := N, bk := D.nx } σ2 H2)) : tFor ti g tb D σ H := hp _ h
/-! ### debates in the heap -/
abbrev fS : Str := "own_statements"
abbrev fO : Str := "own_objections"
abbrev fR : Str := "own_objectors"
abbrev fD : Str := "own_objected"
def dflds (l1 l2 d1 d2 : Addr) : List (Str × V) := [(fS, .ref l1), (fO, .ref l2), (fR, .ref d1), (fD, .ref d2)]
theorem fneSO : ¬ fS = fO := by decide +kernel
theorem fneSR : ¬ fS = fR := by decide +kernel
theorem fneSD : ¬ fS = fD := by decide +kernel
theorem fneOR : ¬ fO = fR := by decide +kernel
theorem fneOD : ¬ fO = fD := by decide +kernel
theorem fneRD : ¬ fR = fD := by decide +kernel
theorem put1 (x : V) : putF fS x [] = [(fS, x)] := rfl
theorem put2 (x y : V) : putF fO y [(fS, x)] = [(fS, x), (fO, y)] := by
  show (if fS = fO then _ else (fS, x) :: putF fO y []) = _
  rw [if_neg fneSO]; rfl
theorem put3 (x y z : V) : putF fR z [(fS, x), (fO, y)] = [(fS, x), (fO, y), (fR, z)] := by
  show (if fS = fR then _ else (fS, x) :: (if fO = fR then _ else (fO, y) :: putF fR z [])) = _
  rw [if_neg fneSR, if_neg fneOR]; rfl
theorem put4 (x y z u : V) : putF fD u [(fS, x), (fO, y), (fR, z)] = [(fS, x), (fO, y), (fR, z), (fD, u)] := by
  show (if fS = fD then _ else (fS, x) :: (if fO = fD then _ else (fO, y) :: (if fR = fD then _ else (fR, z) :: putF fD u []))) = _
  rw [if_neg fneSD, if_neg fneOD, if_neg fneRD]; rfl
theorem look_hd (f : Str) (x : V) (r : List (Str × V)) : ((f, x) :: r).lookup f = some x := by simp [List.lookup]
theorem look_tl {f g : Str} (h : ¬ f = g) (x : V) (r : List (Str × V)) : ((f, x) :: r).lookup g = r.lookup g := by
  have q : (g == f) = false := by simpa using fun e => h e.symm
  simp [List.lookup, q]
theorem look_S (l1 l2 d1 d2 : Addr) : (dflds l1 l2 d1 d2).lookup fS = some (.ref l1) := look_hd _ _ _
theorem look_O (l1 l2 d1 d2 : Addr) : (dflds l1 l2 d1 d2).lookup fO = some (.ref l2) := by
  unfold dflds; rw [look_tl fneSO, look_hd]
theorem look_R (l1 l2 d1 d2 : Addr) : (dflds l1 l2 d1 d2).lookup fR = some (.ref d1) := by
  unfold dflds; rw [look_tl fneSR, look_tl fneOR, look_hd]
theorem look_D (l1 l2 d1 d2 : Addr) : (dflds l1 l2 d1 d2).lookup fD = some (.ref d2) := by
  unfold dflds; rw [look_tl fneSD, look_tl fneOD, look_tl fneRD, look_hd]
/-- a debate of the statements ns (ascending) and the objections ps (ascending) stands at m -/
structure Deb (C : Addr) (H : Hp) (m : Addr) (ns : List Str) (ps : List Pr) : Prop where
  ex : ∃ (dx l1 l2 d1 d2 : Addr) (a1 a2 : Str → Addr) (ws : List V), H m = some (.ins C dx (dflds l1 l2 d1 d2)) ∧ H l1 = some (.lst (ns.map V.str)) ∧ H l2 = some (.lst ws) ∧ Each H ws ps ∧
    H d1 = some (.dK (rowsV ns a1)) ∧ H d2 = some (.dK (rowsV ns a2)) ∧ (∀ n ∈ ns, H (a1 n) = some (.lst ((objectors ps n).map V.str))) ∧ ∀ n ∈ ns, H (a2 n) = some (.lst ((objected ps n).map V.str))
  nms : Nms ns
  nd : ns.Nodup
  ndp : ps.Nodup
  mem : ∀ p ∈ ps, p.1 ∈ ns ∧ p.2 ∈ ns
  ln : ns.length ≤ 1000
  lp : ps.length ≤ 1000
theorem Deb.mono {C : Addr} {H H' : Hp} {m : Addr} {ns : List Str} {ps : List Pr} (e : Ex H H') (d : Deb C H m ns ps) : Deb C H' m ns ps := by
  obtain ⟨⟨dx, l1, l2, d1, d2, a1, a2, ws, h1, h2, h3, h4, h5, h6, h7, h8⟩, r1, r2, r3, r4, r5, r6⟩ := d
  exact ⟨⟨dx, l1, l2, d1, d2, a1, a2, ws, e _ _ h1, e _ _ h2, e _ _ h3, h4.mono e, e _ _ h5, e _ _ h6, fun n hn => e _ _ (h7 n hn), fun n hn => e _ _ (h8 n hn)⟩, r1, r2, r3, r4, r5, r6⟩
/-- what the written part has of the class Debate -/
structure DTxt (K : PySem.W.Frag) (mg : Str → Option Value) (C : Addr) : Prop where
  cl : Cls K C
  nS : NoAttr K C fS
  nO : NoAttr K C fO
  nR : NoAttr K C fR
  nD : NoAttr K C fD
  mgC : mg "Debate" = some (.ref C)
section
variable {P : Program} {w : World} {K : PySem.W.Frag} {mg : Str → Option Value} {base : Heap}
/-- pairs of texts in a list or tuple, each in a list or tuple -/
def LlR : Rel (List Pr) := fun H v ps => ∃ a vs, v = .ref a ∧ (H a = some (.lst vs) ∨ H a = some (.tup vs)) ∧ Paired (LpR H) vs ps
theorem ll_stays : Stays LlR := ⟨fun _ _ _ _ e ⟨a, vs, h1, h2, h3⟩ => ⟨a, vs, h1, h2.imp (e _ _) (e _ _), Paired.stays lp_stays e h3⟩⟩
def kvT (ps : List Pr) : List (List Key × V) := ps.map fun p => (kP p, .bl true)
theorem kP_inj {p q : Pr} (h : kP p = kP q) : p = q := by
  unfold kP at h
  simp only [List.cons.injEq, Sum.inr.injEq, and_true] at h
  exact Prod.ext h.1 h.2
theorem kvT_none {ps : List Pr} {p : Pr} (h : p ∉ ps) : valV (kvT ps) (kP p) = none := by
  induction ps with
  | nil => rfl
  | cons q ps ih =>
    have h2 : ¬ kP q = kP p := fun e => h (by rw [kP_inj e]; exact List.mem_cons_self)
    have h3 := valV_neg (p := (kP q, V.bl true)) (r := kvT ps) (k := kP p) h2
    exact h3.trans (ih fun q => h (List.mem_cons_of_mem _ q))
abbrev s_checked_objections : Stmt := top 20
theorem sc_checked_objections : FnScope ["objections", "statements", "known", "index", "thing"] ["objections", "statements"] (defScope s_checked_objections) := ⟨rfl, rfl, rfl, by decide +kernel, rfl, by decide +kernel, by decide +kernel⟩
def sp_checked_objections : Sp := fun vs H Q _ => ∃ (v : V) (b : Addr) (ps : List Pr) (ns : List Str), vs = [v, .ref b] ∧ LlR H v ps ∧ H b = some (.lst (ns.map V.str)) ∧ Nms ns ∧ ps.Nodup ∧ (∀ p ∈ ps, p.1 ∈ ns ∧ p.2 ∈ ns) ∧ ps.length ≤ 1000 ∧
  ∀ p H', H p = none → Ex H H' → At H' (.ref p) (srt ps) → Q (.ref p) H'
theorem has_checked_objections (T : Txt K mg) (d : Def K mg "checked_objections" s_checked_objections) (d_is_list : Has P w K mg base CX0 "is_list" ["thing"] 1 sp_is_list) (d_as_tuples : Has P w K mg base CX0 "as_tuples" ["thing"] 3 sp_as_tuples) (d_is_pair_of : Has P w K mg base CX0 "is_pair_of" ["thing", "statements"] 2 sp_is_pair_of)  :
    Has P w K mg base CX0 "checked_objections" ["objections", "statements"] 4 sp_checked_objections := by
  obtain ⟨f, fd, F, m⟩ := d
  have sc := sc_checked_objections
  refine ⟨f, fd, F.ok (k := 3) sc (fun vs H Q E h => (by first | (obtain ⟨h, _⟩ := h; rw [h]; rfl) | (obtain ⟨_, h, _⟩ := h; rw [h]; rfl) | (obtain ⟨_, _, h, _⟩ := h; rw [h]; rfl) | (obtain ⟨_, _, _, h, _⟩ := h; rw [h]; rfl) | (obtain ⟨_, _, _, _, h, _⟩ := h; rw [h]; rfl) | (obtain ⟨_, _, _, _, _, h, _⟩ := h; rw [h]; rfl) | (obtain ⟨_, _, _, _, _, _, h, _⟩ := h; rw [h]; rfl) | (obtain ⟨_, _, _, _, _, _, _, h, _⟩ := h; rw [h]; rfl) | (obtain ⟨_, _, _, _, _, _, _, _, h, _⟩ := h; rw [h]; rfl) | (obtain ⟨_, _, _, _, _, _, _, _, _, h, _⟩ := h; rw [h]; rfl) | (obtain ⟨_, _, _, _, _, _, _, _, _, _, h, _⟩ := h; rw [h]; rfl))) (fun cdv A outer s H vs Q E hr h => ?_), m, F.kp, F.binds fun _ _ _ _ _ _ us hl => match us, hl with | [_, _], _ => rfl⟩
  obtain ⟨v, b, ps, ns, rfl, hv, hb, hm, hnd, hmem, hl, q⟩ := h
  refine ⟨_, ((pss_cons (ps_if (pt_not (pt_val (pe_has d_is_list (hr.mono (by decide)) pass0 (by exact (pa_cons (pv 0) pa_nil)))))
      pss_never
      pss_nil)
    (pss_cons (ps_set (i := 2) sc.nd rfl (by first | exact Or.inl rfl | exact Or.inr rfl) pe_dnewT)
    (pss_cons (ps_for PassesOwn.never rfl (pi_enumSK K rfl (by rfl) T.b_enumerate (pa_cons (pv 0) pa_nil)) (pg_tupK (n := 2) K rfl rfl (pgs_cons (pg_name (i := 3) sc.nd rfl (by first | exact Or.inl rfl | exact Or.inr rfl)) (pgs_cons (pg_name (i := 4) sc.nd rfl (by first | exact Or.inl rfl | exact Or.inr rfl)) pgs_nil)))
      (pss_cons (ps_if (PW.pt (pw_or (pt_not (pt_val (pe_has d_is_pair_of (hr.mono (by decide)) pass0 (by exact (pa_cons (pv 4) (pa_cons (pv 1) pa_nil)))))) (pw_or1 (pt_cmp (pc_din (hu_of hr) (pe_has d_as_tuples (hr.mono (by decide)) pass0 (by exact (pa_cons (pv 4) pa_nil))) (pv 2)) (by rfl)))))
        pss_never
        pss_nil)
      (pss_one (ps_dput (hu_of hr) (pv 2) (pe_has d_as_tuples (hr.mono (by decide)) pass0 (by exact (pa_cons (pv 4) pa_nil))) pe_bl rfl))))
    (pss_one (ps_ret (pe_callB (cr_srtD rfl (hu64 hr)) (by rfl) T.b_sorted (by decide +kernel) (pa_cons (pv 2) pa_nil)))))))), ?_⟩
  obtain ⟨k, hk, hkb⟩ : ∃ k, Knd H v k ∧ (decide (k = .lst) || decide (k = .tup)) = true := by
    obtain ⟨a, vs, rfl, h | h, _⟩ := hv
    · exact ⟨_, .lst h, rfl⟩
    · exact ⟨_, .tup h, rfl⟩
  refine ⟨_, rfl, v, k, rfl, hk, fun H1 e1 => ⟨true, congrArg V.bl hkb, iteF ?_⟩⟩
  intro kd hkd
  have e1' : Ex H (upd H1 kd (.dT [])) := e1.trans (Ex.new hkd)
  have nkd : H kd = none := fresh_back e1 hkd
  obtain ⟨J, hgo, hstop, hyl, pick⟩ : ∃ J : It, (∀ i H', i < ps.length → Ex H H' → J.go i H') ∧ (∀ H', Ex H H' → J.stop ps.length H') ∧
      (∀ i H' x H2, Ex H H' → J.yld i H' x H2 → ∃ Tp y p, x = .ref Tp ∧ H' Tp = none ∧ H2 = upd H' Tp (.tup [.int ((i : Nat) : Int), y]) ∧ ps[i]? = some p ∧ LpR H' y p) ∧
      ∀ R : It → Hp → Prop, R J (upd H1 kd (.dT [])) → iEnumS K (tCons (tVar 0) tNil) [some v, some (.ref b), some (.ref kd), none, none] (upd H1 kd (.dT [])) R := by
    obtain ⟨a, vs, rfl, ha, hp⟩ := hv
    have hlen := hp.length
    rcases ha with ha | ha
    · refine ⟨Ite K a, fun i H' hi e => ⟨vs, vs[i], SqL.of (e _ _ ha), List.getElem?_eq_getElem (by omega)⟩, fun H' e => ⟨vs, SqL.of (e _ _ ha), by omega⟩, fun i H' x H2 e hy => ?_, fun R r => ⟨_, rfl, a, rfl, Or.inl ⟨vs, SqL.of (e1' _ _ ha), r⟩⟩⟩
      obtain ⟨Tp, y, rfl, hT, rfl, hy⟩ := hy
      obtain ⟨p, h1, h2⟩ := Paired.get (Paired.stays lp_stays e hp) (hy _ (SqL.of (e _ _ ha)))
      exact ⟨Tp, y, p, rfl, hT, rfl, h1, h2⟩
    · refine ⟨IteT K a, fun i H' hi e => ⟨vs, vs[i], SqT.of (e _ _ ha), List.getElem?_eq_getElem (by omega)⟩, fun H' e => ⟨vs, SqT.of (e _ _ ha), by omega⟩, fun i H' x H2 e hy => ?_, fun R r => ⟨_, rfl, a, rfl, Or.inr ⟨vs, SqT.of (e1' _ _ ha), r⟩⟩⟩
      obtain ⟨Tp, y, rfl, hT, rfl, hy⟩ := hy
      obtain ⟨p, h1, h2⟩ := Paired.get (Paired.stays lp_stays e hp) (hy _ (SqT.of (e _ _ ha)))
      exact ⟨Tp, y, p, rfl, hT, rfl, h1, h2⟩
  refine for_pick pick ?_
  refine (forG ps.length (fun i σ H' => (∃ u u', σ = [some v, some (.ref b), some (.ref kd), u, u']) ∧ Ex H H' ∧ H' kd = some (.dT (kvT (ps.take i)))) ⟨⟨_, _, rfl⟩, e1', upd_same⟩ (fun i σ H' hi ⟨_, e, _⟩ => hgo i H' hi e) (fun σ H' ⟨_, e, _⟩ => hstop H' e) ?_ ?_)
  · rintro i σ H' x H2 hi ⟨⟨u, u', rfl⟩, e, hk'⟩ hy
    obtain ⟨Tp, y, p, rfl, hT, rfl, hp, hyp⟩ := hyl i H' x H2 e hy
    have e2 : Ex H (upd H' Tp (.tup [.int ((i : Nat) : Int), y])) := e.trans (Ex.new hT)
    have hk2 : (upd H' Tp (.tup [.int ((i : Nat) : Int), y])) kd = some (.dT (kvT (ps.take i))) := by rw [upd_ne (ne_of_none hk' hT)]; exact hk'
    have hyp2 := lp_stays.go _ _ _ _ (Ex.new (o := .tup [.int ((i : Nat) : Int), y]) hT) hyp
    refine ⟨Tp, _, rfl, SqT.of upd_same, rfl, _, _, rfl, _, _, rfl, ⟨rfl, ?_⟩⟩
    have hpm := List.mem_of_getElem? hp
    refine ⟨_, rfl, _, rfl, y, b, p, ns, rfl, hyp2, e2 _ _ hb, hm, (hmem p hpm).1, (hmem p hpm).2, fun H3 e3 => ⟨true, rfl, iteF ?_⟩⟩
    refine ⟨_, rfl, y, p, rfl, lp_stays.go _ _ _ _ e3 hyp2, fun a4 H4 ha4 e4 h4 => ⟨_, rfl, kd, _, rfl, DGet.t (k := kP p) (e4 _ _ (e3 _ _ hk2)) h4, _, rfl, ?_⟩⟩
    rw [kvT_none (nodup_take hnd hp)]
    refine iteF ?_
    refine ⟨_, rfl, _, rfl, y, p, rfl, lp_stays.go _ _ _ _ e4 (lp_stays.go _ _ _ _ e3 hyp2), fun a5 H5 ha5 e5 h5 => ⟨kd, _, rfl, DPut.t (k := kP p) (e5 _ _ (e4 _ _ (e3 _ _ hk2))) h5 ?_, ?_⟩⟩
    · have h6 : (kvT (ps.take i)).length ≤ 1000 := by unfold kvT; rw [List.length_map, List.length_take]; omega
      exact small1000 h6
    · refine ⟨⟨_, _, rfl⟩, Ex.mut (((e2.trans e3).trans e4).trans e5) nkd, ?_⟩
      rw [upd_same, putK_new _ (kvT_none (nodup_take hnd hp)), take_more hp]
      unfold kvT
      rw [List.map_append]
      rfl
  · rintro σ H' ⟨⟨u, u', rfl⟩, e, hk'⟩
    rw [List.take_length] at hk'
    refine ⟨_, rfl, kd, _, ps, rfl, hk', by unfold kvT; rw [List.map_map]; rfl, fun p hp => ⟨hm.ok _ (hmem p hp).1, hm.ok _ (hmem p hp).2⟩, fun p ws hp hw => q p _ (fresh_back e hp) (e.trans (Ex.new hp)) (at_list upd_same (hw.mono (Ex.new hp)))⟩
end
end K73
set_option maxRecDepth 100000
set_option maxHeartbeats 4000000
namespace K73
open Enc (At enc)
open PySem L2 Evl
section
variable {P : Program} {w : World} {K : PySem.W.Frag} {mg : Str → Option Value} {base : Heap} {C : Addr}
theorem ex_off {G H H' : Hp} {a : Addr} (e : Ex G H) (h : ∀ b o, b ≠ a → H b = some o → H' b = some o) (ha : G a = none) : Ex G H' := fun b o q => h b o (ne_of_none q ha) (e b o q)
/-- rows of names, each fresh from G, no two at one place -/
structure Rows (G : Hp) (ns : List Str) (a : Str → Addr) : Prop where
  new : ∀ n ∈ ns, G (a n) = none
  inj : ∀ n ∈ ns, ∀ n' ∈ ns, a n = a n' → n = n'
theorem rows_grow {G : Hp} {ns : List Str} {a : Str → Addr} {n : Str} {p : Addr} (h : Rows G ns a) (hn : n ∉ ns) (hp : G p = none) (hf : ∀ m ∈ ns, a m ≠ p) : Rows G (ns ++ [n]) (fun m => if m = n then p else a m) := by
  constructor
  · intro m hm
    by_cases e : m = n
    · rw [if_pos e]; exact hp
    · rw [if_neg e]
      rcases List.mem_append.mp hm with q | q
      · exact h.new m q
      · exact absurd (List.mem_singleton.mp q) e
  · intro m hm m' hm' q
    by_cases e : m = n
    · by_cases e' : m' = n
      · rw [e, e']
      · rw [if_pos e, if_neg e'] at q
        rcases List.mem_append.mp hm' with z | z
        · exact absurd q.symm (hf m' z)
        · exact absurd (List.mem_singleton.mp z) e'
    · by_cases e' : m' = n
      · rw [if_neg e, if_pos e'] at q
        rcases List.mem_append.mp hm with z | z
        · exact absurd q (hf m z)
        · exact absurd (List.mem_singleton.mp z) e
      · rw [if_neg e, if_neg e'] at q
        rcases List.mem_append.mp hm with z | z
        · rcases List.mem_append.mp hm' with z' | z'
          · exact h.inj m z m' z' q
          · exact absurd (List.mem_singleton.mp z') e'
        · exact absurd (List.mem_singleton.mp z) e
theorem Each.row {H : Hp} {a : Addr} {o o' : HO} (ha : H a = some o) (no : ∀ xs, o ≠ .tup xs) : ∀ {ws : List V} {ps : List Pr}, Each H ws ps → Each (upd H a o') ws ps
  | _, _, .nil => .nil
  | _, _, .cons h t => by
    refine .cons ?_ (Each.row ha no t)
    obtain ⟨b, x, y, rfl, hb, hx, hy⟩ := h
    refine ⟨b, x, y, rfl, ?_, hx, hy⟩
    have hne : b ≠ a := fun e => by rw [e, ha] at hb; exact no _ (Option.some.inj hb)
    rw [upd_ne hne]
    exact hb
theorem Each.tups {H G : Hp} (h : ∀ b xs, H b = some (.tup xs) → G b = some (.tup xs)) : ∀ {ws : List V} {ps : List Pr}, Each H ws ps → Each G ws ps
  | _, _, .nil => .nil
  | _, _, .cons ⟨b, x, y, e, hb, hx, hy⟩ t => .cons ⟨b, x, y, e, h _ _ hb, hx, hy⟩ (Each.tups h t)
/-- one dict of empty rows -/
theorem rows_dc {l : Addr} {ns : List Str} {i5 : Nat} {ws : List Nat} {g : TG} {σ : L2.St} {H1 : Hp} {D : Addr} {Qd : Hp → Prop} (hl : H1 l = some (.lst (ns.map V.str))) (hn : ns.Nodup) (hz : ns.length ≤ 1000) (hD : H1 D = none)
    (hg : ∀ x H' Q, Q ((wipe σ ws).set i5 (some x)) H' → g x (wipe σ ws) H' Q) (hw : ∀ x, wipe ((wipe σ ws).set i5 (some x)) ws = wipe σ ws) (hv5 : ∀ x, ((wipe σ ws).set i5 (some x))[i5]? = some (some x))
    (hd : ∀ H' a, Ex H1 H' → H' D = some (.dK (rowsV ns a)) → Rows H1 ns a → (∀ n ∈ ns, H' (a n) = some (.lst [])) → Qd H') :
    ∃ W : Nat → Nat → Hp → Prop, (∃ m, W 0 m (upd H1 D (.dK []))) ∧ ∀ i m H, W i m H →
      ((Itl K l).stop i H ∧ Qd H) ∨ ((Itl K l).go i H ∧ ∃ Nx : Hp → Prop, (∀ H', Nx H' → ∃ m', m' < m ∧ W (i + 1) m' H') ∧ ∀ x H', (Itl K l).yld i H x H' → g x (wipe σ ws) H' fun σ2 H2 => wipe σ2 ws = wipe σ ws ∧ tYes σ2 H2 fun b H3 =>
        if b = true then tVar i5 σ2 H3 fun y H4 => tLst tNil σ2 H4 fun z H5 => ∃ kvs k, y = kV k ∧ H5 D = some (.dK kvs) ∧ kvs.length < sizeLine ∧ Nx (upd H5 D (.dK (putK kvs k z))) else Nx H3) := by
  refine dcG ns.length (fun i H' => Ex H1 H' ∧ ∃ a, H' D = some (.dK (rowsV (ns.take i) a)) ∧ Rows H1 (ns.take i) a ∧ ∀ n ∈ ns.take i, H' (a n) = some (.lst [])) ⟨Ex.new hD, fun _ => 0, upd_same, ⟨fun n hn => by simp at hn, fun n hn => by simp at hn⟩, fun n hn => by simp at hn⟩ (fun i H' hi ⟨e, _⟩ => ⟨_, V.str ns[i], SqL.of (e _ _ hl), by rw [List.getElem?_map, List.getElem?_eq_getElem hi]; rfl⟩) (fun H' ⟨e, _⟩ => ⟨_, SqL.of (e _ _ hl), by rw [List.length_map]; exact Nat.le_refl _⟩) ?_ ?_
  · rintro i H' x H2 hi ⟨e, a, hK, hR, ha⟩ hy
    obtain ⟨rfl, hx⟩ := hy
    obtain ⟨n, hn', rfl⟩ := map_get (hx _ (SqL.of (e _ _ hl)))
    refine hg _ _ _ ⟨hw _, ?_⟩
    refine ⟨_, hv5 _, (by show 0 ≤ _; exact Nat.zero_le _), fun p hp => ⟨rowsV (ns.take i) a, Sum.inr n, rfl, ?_, ?_, ?_⟩⟩
    · rw [upd_ne (ne_of_none hK hp)]; exact hK
    · unfold rowsV
      rw [List.length_map, List.length_take]
      have : (1000 : Nat) < sizeLine := by decide
      omega
    · have hpD : p ≠ D := fun q => by rw [q, hK] at hp; cases hp
      have hp1 : H1 p = none := fresh_back e hp
      refine ⟨Ex.mut (e.trans (Ex.new hp)) hD, fun m => if m = n then p else a m, ?_, ?_, ?_⟩
      · rw [upd_same, rowsV_snoc _ _ _ _ (nodup_take hn hn'), take_more hn']
      · rw [take_more hn']
        exact rows_grow hR (nodup_take hn hn') hp1 fun m hm q => by have := ha m hm; rw [q, hp] at this; cases this
      · rw [take_more hn']
        intro m hm
        dsimp only
        by_cases q : m = n
        · rw [if_pos q, upd_ne hpD, upd_same]
        · rw [if_neg q]
          rcases List.mem_append.mp hm with z | z
          · have h1 := ha m z
            have h2 : a m ≠ D := fun q => by rw [q, hK] at h1; cases h1
            rw [upd_ne h2, upd_ne (ne_of_none h1 hp)]
            exact h1
          · exact absurd (List.mem_singleton.mp z) q
  · rintro H' ⟨e, a, hK, hR, ha⟩
    rw [List.take_length] at hK hR ha
    exact hd H' a e hK hR ha
/-- the class Debate may be made by its name -/
def HasMk (P : Program) (w : World) (K : PySem.W.Frag) (mg : Str → Option Value) (base : Heap) (C : Addr) (k : Nat) (sp : Sp) : Prop :=
  ∃ (f : Addr) (fd : FuncData) (ps : List Str), Mk K C f ∧ FnOk P w K mg base CX0 k f fd ps sp ∧ mg "Debate" = some (.ref C) ∧ Binds K fd ps []
theorem pe_hasMk {X : Cx} {k : Nat} {sp : Sp} {E : XK} {p pos : Pos} {e : Expr} {es : List Expr} {t : TA} (h : HasMk X.prog X.w X.K X.mg X.base C k sp) (hr : Room (k + 1) X.A) (hx : Passes CX0 X E) (ha : PA X (e :: es) t) (hg : Gl X "Debate" := by rfl)
    (he : starEach (e :: es) X.env = (false, eval e X.env) :: starEach es X.env := by rfl) (hpl : (backTo pos (starEach es X.env)).any (·.1) = false := by rfl) :
    PE X (.Call (.Name "Debate" p) (e :: es) [] pos) (tMake C sp [] E t) := by
  obtain ⟨f, fd, ps, M, F, m, b⟩ := h
  exact pe_make M F hr hg m b .nil hx ha (by decide) he hpl
/-- a method of the class at C -/
def HasM (P : Program) (w : World) (K : PySem.W.Frag) (mg : Str → Option Value) (base : Heap) (C : Addr) (m : Str) (k : Nat) (sp : Sp) : Prop :=
  ∃ (f : Addr) (fd : FuncData) (ps : List Str), Cls K C ∧ Meth K C m f ∧ FnOk P w K mg base CX0 k f fd ps sp ∧ Binds K fd ps []
theorem pe_hasM0 {X : Cx} {k : Nat} {m : Str} {sp : Sp} {o : Expr} {ta : TE} {apos pos : Pos} {pl : Sem Bool} (h : HasM X.prog X.w X.K X.mg X.base C m k sp) (hr : Room k X.A) (he : PE X o ta)
    (ht : eval (.Call (.Attribute o m apos) [] [] pos) X.env = (do
      let ov ← eval o X.env
      standAt apos.atName
      let (f, first) ← holding [ov] (getMethod ov m pl)
      callWith pos f first (backTo pos (starEach [] X.env)) (backToKw pos (keywordEach [] X.env))) := by rfl) :
    PE X (.Call (.Attribute o m apos) [] [] pos) (tMeth C m sp [] E0 ta tNil) := by
  obtain ⟨f, fd, ps, hc, hm, F, b⟩ := h
  exact pe_meth0 (pl := pl) he hc hm F hr b .nil pass0 ht
abbrev s_Debate_init : Stmt := inClass (top 21) 0
theorem sc_Debate_init : FnScope ["self", "statements", "objections", "one", "other", "statement"] ["self", "statements", "objections"] (defScope s_Debate_init) := ⟨rfl, rfl, rfl, by decide +kernel, rfl, by decide +kernel, by decide +kernel⟩
def sp_init (C : Addr) : Sp := fun vs H Q _ => ∃ (m dx a : Addr) (v : V) (ns : List Str) (ps : List Pr), vs = [.ref m, .ref a, v] ∧ H m = some (.ins C dx []) ∧ H a = some (.lst (ns.map V.str)) ∧ ns.Nodup ∧ Nms ns ∧ ns.length ≤ 1000 ∧
  LlR (del H m) v ps ∧ ps.Nodup ∧ (∀ p ∈ ps, p.1 ∈ ns ∧ p.2 ∈ ns) ∧ ps.length ≤ 1000 ∧ ∀ H', Ex (del H m) H' →
  (∀ G : Hp, (∀ b o, del H m b = none → H' b = some o → G b = some o) → (∀ b xs, H' b = some (.tup xs) → G b = some (.tup xs)) → Deb C G m (srt ns) (srt ps)) → Q .non H'
theorem mk_Debate (T : Txt K mg) (D : DTxt K mg C) {f : Addr} {fd : FuncData} (M : Mk K C f) (F : Fun K "__init__" "Debate.__init__" s_Debate_init f fd) (d_checked_statements : Has P w K mg base CX0 "checked_statements" ["statements"] 3 sp_checked_statements)
    (d_checked_objections : Has P w K mg base CX0 "checked_objections" ["objections", "statements"] 4 sp_checked_objections) : HasMk P w K mg base C 5 (sp_init C) := by
  have sc := sc_Debate_init
  refine ⟨f, fd, ["self", "statements", "objections"], M, F.ok (k := 4) sc (fun vs H Q E h => by obtain ⟨_, _, _, _, _, _, h, _⟩ := h; rw [h]; rfl) (fun cdv A outer s H vs Q E hr h => ?_), D.mgC, F.binds fun _ _ _ _ _ _ us hl => match us, hl with | [_, _, _], _ => rfl⟩
  obtain ⟨m, dx, a, v, ns, ps, rfl, hm, ha, hn, hs, hl, hv, hnp, hmem, hlp, q⟩ := h
  refine ⟨_, ((pss_cons (ps_fldK K rfl (pv 0) (pe_has d_checked_statements (hr.mono (by decide)) pass0 (by exact (pa_cons (pv 1) pa_nil))) rfl)
    (pss_cons (ps_fldK K rfl (pv 0) (pe_has d_checked_objections (hr.mono (by decide)) pass0 (by exact (pa_cons (pv 2) (pa_cons (pe_fldK K rfl (pv 0) rfl) pa_nil)))) rfl)
    (pss_cons (ps_fldK K rfl (pv 0) (pe_dc (own := [("statement", 5)]) rfl sc.nd (pi_listK K rfl (pe_fldK K rfl (pv 0) rfl)) (blkOk_by (own := [("statement", 5)]) (N := ["self", "statements", "objections", "one", "other", "statement"]) (sc := defScope s_Debate_init) (by decide +kernel)) (fun _ _ _ _ _ => (pg_name (i := 5) sc.nd rfl (by first | exact Or.inl rfl | exact Or.inr rfl))) (fun _ _ _ _ _ => pts_nil) (fun _ _ _ _ _ => (pv 5)) (fun _ _ _ _ _ => (pe_lst pa_nil))) rfl)
    (pss_cons (ps_fldK K rfl (pv 0) (pe_dc (own := [("statement", 5)]) rfl sc.nd (pi_listK K rfl (pe_fldK K rfl (pv 0) rfl)) (blkOk_by (own := [("statement", 5)]) (N := ["self", "statements", "objections", "one", "other", "statement"]) (sc := defScope s_Debate_init) (by decide +kernel)) (fun _ _ _ _ _ => (pg_name (i := 5) sc.nd rfl (by first | exact Or.inl rfl | exact Or.inr rfl))) (fun _ _ _ _ _ => pts_nil) (fun _ _ _ _ _ => (pv 5)) (fun _ _ _ _ _ => (pe_lst pa_nil))) rfl)
    (pss_one (ps_for PassesOwn.never rfl (pi_listK K rfl (pe_fldK K rfl (pv 0) rfl)) (pg_tupK (n := 2) K rfl rfl (pgs_cons (pg_name (i := 3) sc.nd rfl (by first | exact Or.inl rfl | exact Or.inr rfl)) (pgs_cons (pg_name (i := 4) sc.nd rfl (by first | exact Or.inl rfl | exact Or.inr rfl)) pgs_nil)))
      (pss_cons (ps_expr (pe_bmK K rfl PySem.F.plainAttrs_list PySem.F.slot_list_append PySem.F.type_list_append mt_append (pe_dget (hu_of hr) (pe_fldK K rfl (pv 0) rfl) (pv 4) (fun _ _ => rfl)) (pa_cons (pv 3) pa_nil)))
      (pss_one (ps_expr (pe_bmK K rfl PySem.F.plainAttrs_list PySem.F.slot_list_append PySem.F.type_list_append mt_append (pe_dget (hu_of hr) (pe_fldK K rfl (pv 0) rfl) (pv 3) (fun _ _ => rfl)) (pa_cons (pv 4) pa_nil)))))))))))), ?_⟩
  have hGm : del H m m = none := del_same
  have e0 : Ex (del H m) H := del_sub
  have hvH := ll_stays.go _ _ _ _ e0 hv
  refine ⟨_, rfl, a, ns, rfl, ha, hn, hs, hl, fun p1 H1 hp1 e1 hl1 => ⟨_, rfl, m, C, dx, [], rfl, e1 _ _ hm, D.cl, D.nS, by decide, ?_⟩⟩
  rw [put1]
  have nsm : Nms (srt ns) := srt_nms hs
  have p1m : p1 ≠ m := fun q => by rw [q, hm] at hp1; cases hp1
  have E1 : Ex (del H m) (upd H1 m (.ins C dx [(fS, .ref p1)])) := Ex.mut (e0.trans e1) hGm
  have a1 : (upd H1 m (.ins C dx [(fS, .ref p1)])) p1 = some (.lst ((srt ns).map V.str)) := by rw [upd_ne p1m]; exact hl1
  have m1 : (upd H1 m (.ins C dx [(fS, .ref p1)])) m = some (.ins C dx [(fS, .ref p1)]) := upd_same
  generalize upd H1 m (.ins C dx [(fS, .ref p1)]) = G1 at E1 a1 m1
  have nsl : (srt ns).length = ns.length := srt_length ns
  have psl : (srt ps).length = ps.length := srt_length ps
  have nsn : (srt ns).Nodup := (srt_perm ns).nodup_iff.mpr hn
  have psn : (srt ps).Nodup := (srt_perm ps).nodup_iff.mpr hnp
  have inN : ∀ {x}, x ∈ ns → x ∈ srt ns := fun h => (srt_perm ns).mem_iff.mpr h
  have hv1 : LlR G1 v ps := ll_stays.go _ _ _ _ E1 hv
  refine ⟨_, rfl, _, rfl, m, C, dx, _, .ref p1, rfl, m1, D.cl, D.nS, look_hd _ _ _, v, p1, ps, srt ns, rfl, hv1, a1, nsm, hnp, fun p hp => ⟨inN (hmem p hp).1, inN (hmem p hp).2⟩, hlp, fun p2 H2 hp2 e2 hA2 => ⟨_, rfl, m, C, dx, _, rfl, e2 _ _ m1, D.cl, D.nO, (by show 1 < 1000; decide), ?_⟩⟩
  obtain ⟨p2', ws, hq, hb2, hW2⟩ := hA2
  cases hq
  have p2m : p2 ≠ m := fun q => by rw [q, m1] at hp2; cases hp2
  rw [put2]
  have E2 : Ex (del H m) (upd H2 m (.ins C dx [(fS, .ref p1), (fO, .ref p2)])) := Ex.mut (E1.trans e2) hGm
  have p1m' := p1m
  have a2 : (upd H2 m (.ins C dx [(fS, .ref p1), (fO, .ref p2)])) p1 = some (.lst ((srt ns).map V.str)) := by rw [upd_ne p1m]; exact e2 _ _ a1
  have b2 : (upd H2 m (.ins C dx [(fS, .ref p1), (fO, .ref p2)])) p2 = some (.lst ws) := by rw [upd_ne p2m]; exact hb2
  have m2 : (upd H2 m (.ins C dx [(fS, .ref p1), (fO, .ref p2)])) m = some (.ins C dx [(fS, .ref p1), (fO, .ref p2)]) := upd_same
  have W2 : Each (upd H2 m (.ins C dx [(fS, .ref p1), (fO, .ref p2)])) ws (srt ps) := Each.row (e2 _ _ m1) (fun _ h => by cases h) hW2
  generalize upd H2 m (.ins C dx [(fS, .ref p1), (fO, .ref p2)]) = G2 at E2 a2 b2 m2 W2
  refine ⟨_, rfl, m, C, dx, _, .ref p1, rfl, m2, D.cl, D.nS, look_hd _ _ _, p1, rfl, ⟨_, SqL.of a2⟩, fun d1 hd1 => rows_dc a2 nsn (by omega) hd1 (fun x H' Q h => h) (fun x => rfl) (fun x => rfl) (fun H3 r1 e3 hK3 R1 h3 => ?_)⟩
  have d1m : d1 ≠ m := fun q => by rw [q, m2] at hd1; cases hd1
  refine ⟨_, rfl, m, C, dx, _, rfl, e3 _ _ m2, D.cl, D.nR, (by show 2 < 1000; decide), ?_⟩
  rw [put3]
  have hW3 := W2.mono e3
  have hm3 := e3 _ _ m2
  have r1m : ∀ n ∈ srt ns, r1 n ≠ m := fun n h q => by have := R1.new n h; rw [q, m2] at this; cases this
  have r1p1 : ∀ n ∈ srt ns, r1 n ≠ p1 := fun n h q => by have := R1.new n h; rw [q, a2] at this; cases this
  have r1p2 : ∀ n ∈ srt ns, r1 n ≠ p2 := fun n h q => by have := R1.new n h; rw [q, b2] at this; cases this
  have r1d1 : ∀ n ∈ srt ns, r1 n ≠ d1 := fun n h q => by have := h3 n h; rw [q, hK3] at this; cases this
  have r1G : ∀ n ∈ srt ns, (del H m) (r1 n) = none := fun n h => fresh_back E2 (R1.new n h)
  have E3 : Ex (del H m) (upd H3 m (.ins C dx [(fS, .ref p1), (fO, .ref p2), (fR, .ref d1)])) := Ex.mut (E2.trans e3) hGm
  have a3 : (upd H3 m (.ins C dx [(fS, .ref p1), (fO, .ref p2), (fR, .ref d1)])) p1 = some (.lst ((srt ns).map V.str)) := by rw [upd_ne p1m]; exact e3 _ _ a2
  have b3 : (upd H3 m (.ins C dx [(fS, .ref p1), (fO, .ref p2), (fR, .ref d1)])) p2 = some (.lst ws) := by rw [upd_ne p2m]; exact e3 _ _ b2
  have c3 : (upd H3 m (.ins C dx [(fS, .ref p1), (fO, .ref p2), (fR, .ref d1)])) d1 = some (.dK (rowsV (srt ns) r1)) := by rw [upd_ne d1m]; exact hK3
  have m3 : (upd H3 m (.ins C dx [(fS, .ref p1), (fO, .ref p2), (fR, .ref d1)])) m = some (.ins C dx [(fS, .ref p1), (fO, .ref p2), (fR, .ref d1)]) := upd_same
  have W3 : Each (upd H3 m (.ins C dx [(fS, .ref p1), (fO, .ref p2), (fR, .ref d1)])) ws (srt ps) := Each.row hm3 (fun _ h => by cases h) hW3
  have x3 : ∀ n ∈ srt ns, (upd H3 m (.ins C dx [(fS, .ref p1), (fO, .ref p2), (fR, .ref d1)])) (r1 n) = some (.lst []) := fun n h => by rw [upd_ne (r1m n h)]; exact h3 n h
  generalize upd H3 m (.ins C dx [(fS, .ref p1), (fO, .ref p2), (fR, .ref d1)]) = G3 at E3 a3 b3 c3 m3 W3 x3
  refine ⟨_, rfl, m, C, dx, _, .ref p1, rfl, m3, D.cl, D.nS, look_hd _ _ _, p1, rfl, ⟨_, SqL.of a3⟩, fun d2 hd2 => rows_dc a3 nsn (by omega) hd2 (fun x H' Q h => h) (fun x => rfl) (fun x => rfl) (fun H4 r2 e4 hK4 R2 h4 => ?_)⟩
  have d2m : d2 ≠ m := fun q => by rw [q, m3] at hd2; cases hd2
  refine ⟨_, rfl, m, C, dx, _, rfl, e4 _ _ m3, D.cl, D.nD, (by show 3 < 1000; decide), ?_⟩
  rw [put4]
  have hW4 := W3.mono e4
  have hm4 := e4 _ _ m3
  have r2m : ∀ n ∈ srt ns, r2 n ≠ m := fun n h q => by have := R2.new n h; rw [q, m3] at this; cases this
  have r2p1 : ∀ n ∈ srt ns, r2 n ≠ p1 := fun n h q => by have := R2.new n h; rw [q, a3] at this; cases this
  have r2p2 : ∀ n ∈ srt ns, r2 n ≠ p2 := fun n h q => by have := R2.new n h; rw [q, b3] at this; cases this
  have r2d1 : ∀ n ∈ srt ns, r2 n ≠ d1 := fun n h q => by have := R2.new n h; rw [q, c3] at this; cases this
  have r2d2 : ∀ n ∈ srt ns, r2 n ≠ d2 := fun n h q => by have := h4 n h; rw [q, hK4] at this; cases this
  have r1d2 : ∀ n ∈ srt ns, r1 n ≠ d2 := fun n h q => by have := x3 n h; rw [q, hd2] at this; cases this
  have r12 : ∀ n ∈ srt ns, ∀ n' ∈ srt ns, r1 n ≠ r2 n' := fun n h n' h' q => by have := x3 n h; rw [q, R2.new n' h'] at this; cases this
  have r2G : ∀ n ∈ srt ns, (del H m) (r2 n) = none := fun n h => fresh_back E3 (R2.new n h)
  have E4 : Ex (del H m) (upd H4 m (.ins C dx (dflds p1 p2 d1 d2))) := Ex.mut (E3.trans e4) hGm
  have a4 : (upd H4 m (.ins C dx (dflds p1 p2 d1 d2))) p1 = some (.lst ((srt ns).map V.str)) := by rw [upd_ne p1m]; exact e4 _ _ a3
  have b4 : (upd H4 m (.ins C dx (dflds p1 p2 d1 d2))) p2 = some (.lst ws) := by rw [upd_ne p2m]; exact e4 _ _ b3
  have c4 : (upd H4 m (.ins C dx (dflds p1 p2 d1 d2))) d1 = some (.dK (rowsV (srt ns) r1)) := by rw [upd_ne d1m]; exact e4 _ _ c3
  have k4 : (upd H4 m (.ins C dx (dflds p1 p2 d1 d2))) d2 = some (.dK (rowsV (srt ns) r2)) := by rw [upd_ne d2m]; exact hK4
  have m4 : (upd H4 m (.ins C dx (dflds p1 p2 d1 d2))) m = some (.ins C dx (dflds p1 p2 d1 d2)) := upd_same
  have W4 : Each (upd H4 m (.ins C dx (dflds p1 p2 d1 d2))) ws (srt ps) := Each.row hm4 (fun _ h => by cases h) hW4
  have x4 : ∀ n ∈ srt ns, (upd H4 m (.ins C dx (dflds p1 p2 d1 d2))) (r1 n) = some (.lst []) := fun n h => by rw [upd_ne (r1m n h)]; exact e4 _ _ (x3 n h)
  have y4 : ∀ n ∈ srt ns, (upd H4 m (.ins C dx (dflds p1 p2 d1 d2))) (r2 n) = some (.lst []) := fun n h => by rw [upd_ne (r2m n h)]; exact h4 n h
  rw [show [(fS, V.ref p1), (fO, V.ref p2), (fR, V.ref d1), (fD, V.ref d2)] = dflds p1 p2 d1 d2 from rfl]
  generalize upd H4 m (.ins C dx (dflds p1 p2 d1 d2)) = G4 at E4 a4 b4 c4 k4 m4 W4 x4 y4
  have p1G : del H m p1 = none := fresh_back e0 hp1
  have p2G : del H m p2 = none := fresh_back E1 hp2
  have d1G : del H m d1 = none := fresh_back E2 hd1
  have d2G : del H m d2 = none := fresh_back E3 hd2
  clear hm3 hm4 hW3 hW4 x3 W3 m3 c3 b3 a3 E3 hK4 h4 h3 hK3 W2 m2 b2 a2 E2
  have wl := W4.length
  have m1000 : (1000 : Nat) < sizeLine := by decide
  refine ⟨_, rfl, m, C, dx, _, .ref p2, rfl, m4, D.cl, D.nO, look_O _ _ _ _, p2, rfl, ⟨_, SqL.of b4⟩, forG (srt ps).length (fun i σ H' => (∃ u u', σ = [some (.ref m), some (.ref a), some v, u, u', none]) ∧ Ex (del H m) H' ∧ H' m = some (.ins C dx (dflds p1 p2 d1 d2)) ∧ H' p1 = some (.lst ((srt ns).map V.str)) ∧ H' p2 = some (.lst ws) ∧ Each H' ws (srt ps) ∧ H' d1 = some (.dK (rowsV (srt ns) r1)) ∧ H' d2 = some (.dK (rowsV (srt ns) r2)) ∧
      (∀ n ∈ srt ns, H' (r1 n) = some (.lst ((objectors ((srt ps).take i) n).map V.str))) ∧ ∀ n ∈ srt ns, H' (r2 n) = some (.lst ((objected ((srt ps).take i) n).map V.str)))
    ⟨⟨_, _, rfl⟩, E4, m4, a4, b4, W4, c4, k4, x4, y4⟩ (fun i σ H' hi ⟨_, _, _, _, hb, _⟩ => ⟨_, ws[i], SqL.of hb, List.getElem?_eq_getElem (by omega)⟩) (fun σ H' ⟨_, _, _, _, hb, _⟩ => ⟨_, SqL.of hb, by omega⟩) ?_ ?_⟩
  · rintro i σ H' x H2' hi ⟨⟨u, u', rfl⟩, eX, mX, aX, bX, wX, cX, dX, xX, yX⟩ hy
    obtain ⟨rfl, hx⟩ := hy
    obtain ⟨⟨x1, x2⟩, hp, hat⟩ := Paired.get wX (hx _ (SqL.of bX))
    obtain ⟨Tp, _, _, rfl, hT, ⟨rfl, hk1⟩, ⟨rfl, hk2⟩⟩ := hat
    have hpm := hmem _ ((srt_perm ps).mem_iff.mp (List.mem_of_getElem? hp))
    have i1 : x1 ∈ srt ns := inN hpm.1
    have i2 : x2 ∈ srt ns := inN hpm.2
    have hti : ((srt ps).take i).length ≤ 1000 := by rw [List.length_take]; omega
    have l1 : ((objectors ((srt ps).take i) x2).map V.str).length < sizeLine := by
      have := objectors_len ((srt ps).take i) x2
      rw [List.length_map]
      omega
    have l2 : ((objected ((srt ps).take i) x1).map V.str).length < sizeLine := by
      have := objected_len ((srt ps).take i) x1
      rw [List.length_map]
      omega
    refine ⟨Tp, _, rfl, SqT.of hT, rfl, _, _, rfl, _, _, rfl, ⟨rfl, ?_⟩⟩
    have g1 : DGet H2' d1 (.str x2) (some (.ref (r1 x2))) := by
      have := DGet.k (k := Sum.inr x2) cX
      rw [valV_rows i2] at this
      exact this
    refine ⟨_, rfl, m, C, dx, _, .ref d1, rfl, mX, D.cl, D.nR, look_R _ _ _ _, _, rfl, d1, .ref (r1 x2), rfl, g1, Or.inl ⟨rfl, _, SqL.of (xX x2 i2)⟩, _, rfl, r1 x2, _, .str x1, rfl, rfl, xX x2 i2, l1, ?_⟩
    have f1 : ∀ {b : Addr} {o : HO}, r1 x2 ≠ b → H2' b = some o → (upd H2' (r1 x2) (.lst ((objectors ((srt ps).take i) x2).map V.str ++ [V.str x1]))) b = some o := fun h e => by rw [upd_ne fun q => h q.symm]; exact e
    have mY := f1 (r1m _ i2) mX
    have aY := f1 (r1p1 _ i2) aX
    have bY := f1 (r1p2 _ i2) bX
    have cY := f1 (r1d1 _ i2) cX
    have dY := f1 (r1d2 _ i2) dX
    have wY : Each (upd H2' (r1 x2) (.lst ((objectors ((srt ps).take i) x2).map V.str ++ [V.str x1]))) ws (srt ps) := Each.row (xX x2 i2) (fun _ h => by cases h) wX
    have eY : Ex (del H m) (upd H2' (r1 x2) (.lst ((objectors ((srt ps).take i) x2).map V.str ++ [V.str x1]))) := Ex.mut eX (r1G _ i2)
    have xY : ∀ n ∈ srt ns, (upd H2' (r1 x2) (.lst ((objectors ((srt ps).take i) x2).map V.str ++ [V.str x1]))) (r1 n) = some (.lst ((objectors ((srt ps).take (i + 1)) n).map V.str)) := fun n hn => by
      rw [take_more hp, objectors_snoc, List.map_append]
      by_cases e : x2 = n
      · subst e
        rw [if_pos rfl, upd_same]
        rfl
      · rw [if_neg e, upd_ne fun q => e (R1.inj _ i2 _ hn q.symm), xX n hn]
        simp
    have yY : ∀ n ∈ srt ns, (upd H2' (r1 x2) (.lst ((objectors ((srt ps).take i) x2).map V.str ++ [V.str x1]))) (r2 n) = some (.lst ((objected ((srt ps).take i) n).map V.str)) := fun n hn => f1 (r12 _ i2 _ hn) (yX n hn)
    generalize upd H2' (r1 x2) (.lst ((objectors ((srt ps).take i) x2).map V.str ++ [V.str x1])) = G5 at mY aY bY cY dY wY eY xY yY
    have g2 : DGet G5 d2 (.str x1) (some (.ref (r2 x1))) := by
      have := DGet.k (k := Sum.inr x1) dY
      rw [valV_rows i1] at this
      exact this
    refine ⟨_, rfl, m, C, dx, _, .ref d2, rfl, mY, D.cl, D.nD, look_D _ _ _ _, _, rfl, d2, .ref (r2 x1), rfl, g2, Or.inl ⟨rfl, _, SqL.of (yY x1 i1)⟩, _, rfl, r2 x1, _, .str x2, rfl, rfl, yY x1 i1, l2, ?_⟩
    have f2 : ∀ {b : Addr} {o : HO}, r2 x1 ≠ b → G5 b = some o → (upd G5 (r2 x1) (.lst ((objected ((srt ps).take i) x1).map V.str ++ [V.str x2]))) b = some o := fun h e => by rw [upd_ne fun q => h q.symm]; exact e
    refine ⟨⟨_, _, rfl⟩, Ex.mut eY (r2G _ i1), f2 (r2m _ i1) mY, f2 (r2p1 _ i1) aY, f2 (r2p2 _ i1) bY, Each.row (yY x1 i1) (fun _ h => by cases h) wY, f2 (r2d1 _ i1) cY, f2 (r2d2 _ i1) dY, fun n hn => f2 (fun q => r12 _ hn _ i1 q.symm) (xY n hn), fun n hn => ?_⟩
    rw [take_more hp, objected_snoc, List.map_append]
    by_cases e : x1 = n
    · subst e
      rw [if_pos rfl, upd_same]
      rfl
    · rw [if_neg e, upd_ne fun q => e (R2.inj _ i1 _ hn q.symm), yY n hn]
      simp
  · rintro σ H' ⟨_, eX, mX, aX, bX, wX, cX, dX, xX, yX⟩
    rw [List.take_length] at xX yX
    exact q H' eX fun G g1 g2 => ⟨⟨dx, p1, p2, d1, d2, r1, r2, ws, g1 _ _ hGm mX, g1 _ _ p1G aX, g1 _ _ p2G bX, Each.tups g2 wX, g1 _ _ d1G cX, g1 _ _ d2G dX, fun n hn => g1 _ _ (r1G n hn) (xX n hn), fun n hn => g1 _ _ (r2G n hn) (yX n hn)⟩, nsm, nsn, psn, fun p hp => ⟨inN (hmem p ((srt_perm ps).mem_iff.mp hp)).1, inN (hmem p ((srt_perm ps).mem_iff.mp hp)).2⟩, by omega, by omega⟩
end
end K73
set_option maxRecDepth 100000
set_option maxHeartbeats 4000000
namespace K73
open Enc (At enc)
open PySem L2 Evl
section
variable {P : Program} {w : World} {K : PySem.W.Frag} {mg : Str → Option Value} {base : Heap} {C C_NoStatement : Addr}
abbrev s_Debate_statements : Stmt := inClass (top 21) 1
theorem sc_Debate_statements : FnScope ["self"] ["self"] (defScope s_Debate_statements) := ⟨rfl, rfl, rfl, by decide +kernel, rfl, by decide +kernel, by decide +kernel⟩
def sp_statements (C : Addr) : Sp := fun vs H Q _ => ∃ (m : Addr) (ns : List Str) (ps : List Pr), vs = [.ref m] ∧ Deb C H m ns ps ∧ ∀ p H', H p = none → Ex H H' → H' p = some (.lst (ns.map V.str)) → Q (.ref p) H'
theorem has_statements (T : Txt K mg) (D : DTxt K mg C) {f : Addr} {fd : FuncData} (M : Meth K C "statements" f) (F : Fun K "statements" "Debate.statements" s_Debate_statements f fd) : HasM P w K mg base C "statements" 1 (sp_statements C) := by
  have sc := sc_Debate_statements
  refine ⟨f, fd, ["self"], D.cl, M, F.ok (k := 0) sc (fun vs H Q E h => by obtain ⟨_, _, _, h, _⟩ := h; rw [h]; rfl) (fun cdv A outer s H vs Q E hr h => ?_), F.binds fun _ _ _ _ _ _ us hl => match us, hl with | [_], _ => rfl⟩
  obtain ⟨m, ns, ps, rfl, dm, q⟩ := h
  refine ⟨_, ((pss_one (ps_ret (pe_callTy (call_list_ofK K rfl) (by rfl) T.b_list (by decide +kernel) (pa_cons (pe_fldK K rfl (pv 0) rfl) pa_nil))))), ?_⟩
  obtain ⟨dx, l1, l2, d1, d2, a1, a2, ws, hm, h1, h2, hW, -⟩ := dm.ex
  exact ⟨_, rfl, m, C, dx, _, .ref l1, rfl, hm, D.cl, D.nS, look_S _ _ _ _, l1, _, rfl, Or.inl (SqL.of h1), fun p hp => q p _ hp (Ex.new hp) upd_same⟩
abbrev s_Debate_objections : Stmt := inClass (top 21) 2
theorem sc_Debate_objections : FnScope ["self"] ["self"] (defScope s_Debate_objections) := ⟨rfl, rfl, rfl, by decide +kernel, rfl, by decide +kernel, by decide +kernel⟩
def sp_objections (C : Addr) : Sp := fun vs H Q _ => ∃ (m : Addr) (ns : List Str) (ps : List Pr), vs = [.ref m] ∧ Deb C H m ns ps ∧ ∀ p H', H p = none → Ex H H' → At H' (.ref p) ps → Q (.ref p) H'
theorem has_objections (T : Txt K mg) (D : DTxt K mg C) {f : Addr} {fd : FuncData} (M : Meth K C "objections" f) (F : Fun K "objections" "Debate.objections" s_Debate_objections f fd) : HasM P w K mg base C "objections" 1 (sp_objections C) := by
  have sc := sc_Debate_objections
  refine ⟨f, fd, ["self"], D.cl, M, F.ok (k := 0) sc (fun vs H Q E h => by obtain ⟨_, _, _, h, _⟩ := h; rw [h]; rfl) (fun cdv A outer s H vs Q E hr h => ?_), F.binds fun _ _ _ _ _ _ us hl => match us, hl with | [_], _ => rfl⟩
  obtain ⟨m, ns, ps, rfl, dm, q⟩ := h
  refine ⟨_, ((pss_one (ps_ret (pe_callTy (call_list_ofK K rfl) (by rfl) T.b_list (by decide +kernel) (pa_cons (pe_fldK K rfl (pv 0) rfl) pa_nil))))), ?_⟩
  obtain ⟨dx, l1, l2, d1, d2, a1, a2, ws, hm, h1, h2, hW, -⟩ := dm.ex
  exact ⟨_, rfl, m, C, dx, _, .ref l2, rfl, hm, D.cl, D.nO, look_O _ _ _ _, l2, _, rfl, Or.inl (SqL.of h2), fun p hp => q p _ hp (Ex.new hp) (at_list upd_same (hW.mono (Ex.new hp)))⟩
abbrev s_checked_statement : Stmt := top 22
theorem sc_checked_statement : FnScope ["debate", "statement"] ["debate", "statement"] (defScope s_checked_statement) := ⟨rfl, rfl, rfl, by decide +kernel, rfl, by decide +kernel, by decide +kernel⟩
/-- the statement asked for is one of the debate's; or it is not, and the text's error tells it -/
def sp_checked_statement (C N : Addr) : Sp := fun vs H Q E => ∃ (m : Addr) (ns : List Str) (ps : List Pr) (v : V), vs = [.ref m, v] ∧ Deb C H m ns ps ∧ ((∃ x, v = .str x ∧ x ∈ ns ∧ Q v H) ∨
  (∃ k, Knd H v k ∧ (∀ x, v = .str x → x ∉ ns)) ∧ ∀ d, H d = none → E (.ref N) (some d) (upd H d (.xd [("thing", v)])))
theorem has_checked_statement (T : Txt K mg) (d : Def K mg "checked_statement" s_checked_statement) (d_NoStatement : HasErr P w K mg base "NoStatement" "thing" C_NoStatement) (D : DTxt K mg C) :
    Has P w K mg base (L2.CX P w) "checked_statement" ["debate", "statement"] 3 (sp_checked_statement C C_NoStatement) := by
  obtain ⟨f, fd, F, m⟩ := d
  have sc := sc_checked_statement
  refine ⟨f, fd, F.okX (k := 2) sc (fun vs H Q E h => (by first | (obtain ⟨h, _⟩ := h; rw [h]; rfl) | (obtain ⟨_, h, _⟩ := h; rw [h]; rfl) | (obtain ⟨_, _, h, _⟩ := h; rw [h]; rfl) | (obtain ⟨_, _, _, h, _⟩ := h; rw [h]; rfl) | (obtain ⟨_, _, _, _, h, _⟩ := h; rw [h]; rfl) | (obtain ⟨_, _, _, _, _, h, _⟩ := h; rw [h]; rfl) | (obtain ⟨_, _, _, _, _, _, h, _⟩ := h; rw [h]; rfl) | (obtain ⟨_, _, _, _, _, _, _, h, _⟩ := h; rw [h]; rfl) | (obtain ⟨_, _, _, _, _, _, _, _, h, _⟩ := h; rw [h]; rfl) | (obtain ⟨_, _, _, _, _, _, _, _, _, h, _⟩ := h; rw [h]; rfl) | (obtain ⟨_, _, _, _, _, _, _, _, _, _, h, _⟩ := h; rw [h]; rfl))) (fun cdv A outer s H vs Q E hr h => ?_), m, F.kp, F.binds fun _ _ _ _ _ _ us hl => match us, hl with | [_, _], _ => rfl⟩
  obtain ⟨m, ns, ps, v, rfl, dm, q⟩ := h
  refine ⟨_, ((pss_cons (ps_if (PW.pt (pw_or (pt_not (pt_val (pe_callB call_is (by rfl) T.b_isinstance (by decide +kernel) (pa_cons (pv 1) (pa_cons (pe_bltn (v := .ty "str") (by rfl) T.b_str (by decide +kernel) rfl) pa_nil))))) (pw_or1 (pt_cmp (pc_dnotin (hu_of hr) (pv 1) (pe_fldK K rfl (pv 0) rfl)) (by rfl)))))
      (pss_one (ps_raiseX d_NoStatement (hr.mono (by decide)) (takes_of rfl rfl rfl rfl) (by exact (pa_cons (pv 1) pa_nil))))
      pss_nil)
    (pss_one (ps_ret (pv 1))))), ?_⟩
  obtain ⟨dx, l1, l2, d1, d2, a1, a2, ws, hm, h1, h2, hW, h3, -⟩ := dm.ex
  rcases q with ⟨x, rfl, hx, q⟩ | ⟨⟨k, hk, hx⟩, q⟩
  · have g1 : DGet H d1 (.str x) (some (.ref (a1 x))) := by
      have := DGet.k (k := Sum.inr x) h3
      rw [valV_rows hx] at this
      exact this
    exact ⟨_, rfl, _, .str, .str, rfl, by decide, .str x, _, rfl, iteF ⟨_, rfl, _, rfl, m, C, dx, _, .ref d1, rfl, hm, D.cl, D.nR, look_R _ _ _ _, d1, _, rfl, g1, _, rfl, iteF ⟨_, rfl, q⟩⟩⟩
  · refine ⟨_, rfl, _, k, .str, rfl, by decide, hk, _, rfl, ?_⟩
    cases hk with
    | str x =>
      have g1 : DGet H d1 (.str x) none := by
        have := DGet.k (k := Sum.inr x) h3
        rw [valV_rows_none (hx x rfl)] at this
        exact this
      exact iteF ⟨_, rfl, _, rfl, m, C, dx, _, .ref d1, rfl, hm, D.cl, D.nR, look_R _ _ _ _, d1, _, rfl, g1, _, rfl, iteT ⟨_, rfl, err_ok q⟩⟩
    | _ => exact iteT ⟨_, rfl, err_ok q⟩
end
end K73
set_option maxRecDepth 100000
set_option maxHeartbeats 4000000
namespace K73
open Enc (At enc)
open PySem L2 Evl
section
variable {P : Program} {w : World} {K : PySem.W.Frag} {mg : Str → Option Value} {base : Heap} {C C_NoStatement : Addr}
/-- the keys of kvs are just what ms hits -/
def Hits (kvs : List (Key × V)) (ps : List Pr) (ms : List Str) : Prop := ∀ x : Str, (valV kvs (Sum.inr x)).isSome = hitB ps ms x
abbrev s_hit_by : Stmt := top 26
theorem sc_hit_by : FnScope ["debate", "members", "member", "other"] ["debate", "members"] (defScope s_hit_by) := ⟨rfl, rfl, rfl, by decide +kernel, rfl, by decide +kernel, by decide +kernel⟩
def sp_hit_by (C : Addr) : Sp := fun vs H Q _ => ∃ (m a : Addr) (ns : List Str) (ps : List Pr) (ms : List Str), vs = [.ref m, .ref a] ∧ Deb C H m ns ps ∧ H a = some (.lst (ms.map V.str)) ∧ (∀ x ∈ ms, x ∈ ns) ∧ ms.length ≤ 1000 ∧
  ∀ p kvs H', H p = none → Ex H H' → H' p = some (.dK kvs) → Hits kvs ps ms → Q (.ref p) H'
theorem has_hit_by (T : Txt K mg) (d : Def K mg "hit_by" s_hit_by)  (D : DTxt K mg C) :
    Has P w K mg base CX0 "hit_by" ["debate", "members"] 1 (sp_hit_by C) := by
  obtain ⟨f, fd, F, m⟩ := d
  have sc := sc_hit_by
  refine ⟨f, fd, F.ok (k := 0) sc (fun vs H Q E h => (by first | (obtain ⟨h, _⟩ := h; rw [h]; rfl) | (obtain ⟨_, h, _⟩ := h; rw [h]; rfl) | (obtain ⟨_, _, h, _⟩ := h; rw [h]; rfl) | (obtain ⟨_, _, _, h, _⟩ := h; rw [h]; rfl) | (obtain ⟨_, _, _, _, h, _⟩ := h; rw [h]; rfl) | (obtain ⟨_, _, _, _, _, h, _⟩ := h; rw [h]; rfl) | (obtain ⟨_, _, _, _, _, _, h, _⟩ := h; rw [h]; rfl) | (obtain ⟨_, _, _, _, _, _, _, h, _⟩ := h; rw [h]; rfl) | (obtain ⟨_, _, _, _, _, _, _, _, h, _⟩ := h; rw [h]; rfl) | (obtain ⟨_, _, _, _, _, _, _, _, _, h, _⟩ := h; rw [h]; rfl) | (obtain ⟨_, _, _, _, _, _, _, _, _, _, h, _⟩ := h; rw [h]; rfl))) (fun cdv A outer s H vs Q E hr h => ?_), m, F.kp, F.binds fun _ _ _ _ _ _ us hl => match us, hl with | [_, _], _ => rfl⟩
  obtain ⟨m, a, ns, ps, ms, rfl, dm, ha, hin, hml, q⟩ := h
  refine ⟨_, ((pss_one (ps_ret (pe_dc2 (own := [("member", 2), ("other", 3)]) (vs1 := [3]) rfl sc.nd (pi_listK K rfl (pv 1)) (blkOk_by (own := [("member", 2), ("other", 3)]) (N := ["debate", "members", "member", "other"]) (sc := defScope s_hit_by) (by decide +kernel)) (by decide) (fun _ _ _ _ _ => (pg_name (i := 2) sc.nd rfl (by first | exact Or.inl rfl | exact Or.inr rfl))) (fun _ _ _ _ _ => pts_nil) (fun _ _ _ _ _ => (pi_listK K rfl (pe_dget (hu_of hr) (pe_fldK K rfl (pv 0) rfl) (pv 2) (fun _ _ => rfl)))) (fun _ _ _ _ _ => (pg_name (i := 3) sc.nd rfl (by first | exact Or.inl rfl | exact Or.inr rfl))) (fun _ _ _ _ _ => pts_nil) (fun _ _ _ _ _ => (pv 3)) (fun _ _ _ _ _ => pe_bl))))), ?_⟩
  have lp := dm.lp
  obtain ⟨dx, l1, l2, d1, d2, a1, a2, ws, hm, h1, h2, hW, h3, h4, h5, h6⟩ := dm.ex
  have szl : (1001000 : Nat) < sizeLine := by decide
  refine ⟨_, rfl, a, rfl, ⟨_, SqL.of ha⟩, fun Dd hD => ?_⟩
  refine ⟨fun i n H' => n + i = ms.length ∧ Ex H H' ∧ ∃ kvs, H' Dd = some (.dK kvs) ∧ kvs.length ≤ i * 1000 ∧ ∀ x : Str, (valV kvs (Sum.inr x)).isSome = hitB ps (ms.take i) x, ⟨ms.length, rfl, Ex.new hD, [], upd_same, Nat.zero_le _, fun x => rfl⟩, ?_⟩
  rintro i n H' ⟨hi, e, kvs, hk, hkl, hh⟩
  by_cases hlt : i < ms.length
  · refine .inr ⟨⟨_, V.str ms[i], SqL.of (e _ _ ha), by rw [List.getElem?_map, List.getElem?_eq_getElem hlt]; rfl⟩, fun H' => Ex H H' ∧ ∃ kvs, H' Dd = some (.dK kvs) ∧ kvs.length ≤ (i + 1) * 1000 ∧ ∀ x : Str, (valV kvs (Sum.inr x)).isSome = hitB ps (ms.take (i + 1)) x, fun H2 h2 => ⟨ms.length - (i + 1), by omega, by omega, h2⟩, ?_⟩
    rintro x H2 ⟨rfl, hx⟩
    obtain ⟨y, hy, rfl⟩ := map_get (hx _ (SqL.of (e _ _ ha)))
    have yn : y ∈ ns := hin y (List.mem_of_getElem? hy)
    refine ⟨rfl, ?_⟩
    have g1 : DGet H2 d2 (.str y) (some (.ref (a2 y))) := by
      have := DGet.k (k := Sum.inr y) (e _ _ h4)
      rw [valV_rows yn] at this
      exact this
    have hr2 := h6 y yn
    have hol : (objected ps y).length ≤ 1000 := Nat.le_trans (objected_len ps y) lp
    refine ⟨_, rfl, m, C, dx, _, .ref d2, rfl, e _ _ hm, D.cl, D.nD, look_D _ _ _ _, _, rfl, d2, _, rfl, g1, a2 y, rfl, ⟨_, SqL.of (e _ _ hr2)⟩, ?_⟩
    refine ⟨fun j n H' => n + j = (objected ps y).length ∧ Ex H H' ∧ ∃ kvs, H' Dd = some (.dK kvs) ∧ kvs.length ≤ i * 1000 + j ∧ ∀ x : Str, (valV kvs (Sum.inr x)).isSome = (hitB ps (ms.take i) x || decide (x ∈ (objected ps y).take j)), ⟨_, rfl, e, kvs, hk, hkl, fun x => by rw [hh x]; simp⟩, ?_⟩
    rintro j n' H3 ⟨hj, e3, kvs3, hk3, hkl3, hh3⟩
    by_cases hjt : j < (objected ps y).length
    · refine .inr ⟨⟨_, V.str (objected ps y)[j], SqL.of (e3 _ _ hr2), by rw [List.getElem?_map, List.getElem?_eq_getElem hjt]; rfl⟩, fun H' => Ex H H' ∧ ∃ kvs, H' Dd = some (.dK kvs) ∧ kvs.length ≤ i * 1000 + (j + 1) ∧ ∀ x : Str, (valV kvs (Sum.inr x)).isSome = (hitB ps (ms.take i) x || decide (x ∈ (objected ps y).take (j + 1))), fun H2 h2 => ⟨(objected ps y).length - (j + 1), by omega, by omega, h2⟩, ?_⟩
      rintro x H4 ⟨rfl, hx⟩
      obtain ⟨z, hz, rfl⟩ := map_get (hx _ (SqL.of (e3 _ _ hr2)))
      refine ⟨rfl, ?_⟩
      refine ⟨_, rfl, kvs3, Sum.inr z, rfl, hk3, ?_, Ex.mut e3 hD, _, upd_same, ?_, fun x => ?_⟩
      · have : i * 1000 ≤ 999000 := by omega
        omega
      · have := length_putK kvs3 (Sum.inr z) (.bl true)
        omega
      · rw [valV_put, take_more hz]
        by_cases hxz : x = z
        · subst hxz
          simp
        · have hne : ¬ (Sum.inr x : Key) = Sum.inr z := fun q => hxz (Sum.inr.inj q)
          rw [if_neg hne, hh3 x]
          simp [hxz]
    · have ej : j = (objected ps y).length := by omega
      subst ej
      refine .inl ⟨⟨_, SqL.of (e3 _ _ hr2), by rw [List.length_map]; exact Nat.le_refl _⟩, e3, kvs3, hk3, by omega, fun x => ?_⟩
      rw [hh3 x, List.take_length, take_more hy]
      unfold hitB
      rw [List.any_append]
      congr 1
      simp only [List.any_cons, List.any_nil, Bool.or_false]
      exact decide_eq_decide.mpr mem_objected
  · have ei : i = ms.length := by omega
    subst ei
    refine .inl ⟨⟨_, SqL.of (e _ _ ha), by rw [List.length_map]; exact Nat.le_refl _⟩, q Dd kvs H' hD e hk ?_⟩
    intro x
    rw [hh x, List.take_length]
end
end K73
set_option maxRecDepth 100000
set_option maxHeartbeats 4000000
namespace K73
open Enc (At enc)
open PySem L2 Evl
theorem ex_lock {H1 H' : Hp} {d : Addr} {u f : HO} (hd : H1 d = some u) (e : Ex (upd H1 d f) H') : Ex H1 (upd H' d u) := fun b o q => by
  by_cases h : b = d
  · subst h
    rw [upd_same, ← hd]
    exact q
  · rw [upd_ne h]
    exact e b o (by rw [upd_ne h]; exact q)
theorem lock_get {H : Hp} {d b : Addr} {f o : HO} (hb : H b = some o) (h : b ≠ d) : (upd H d f) b = some o := by rw [upd_ne h]; exact hb
/-- texts as they stand -/
def StR : Rel Str := fun _ v x => v = .str x
theorem st_stays : Stays StR := ⟨fun _ _ _ _ _ h => h⟩
theorem strs_eq {H : Hp} : ∀ {vs : List V} {xs : List Str}, Paired (StR H) vs xs → vs = xs.map V.str
  | _, _, .nil => rfl
  | _, _, .cons h t => by
    have h1 : _ = _ := h
    rw [h1, strs_eq t]; rfl
theorem strs_self {H : Hp} : ∀ xs : List Str, Paired (StR H) (xs.map V.str) xs
  | [] => .nil
  | _ :: xs => .cons rfl (strs_self xs)
theorem fm_if {α : Type} (p : α → Bool) : ∀ l : List α, (l.filterMap fun x => if p x = true then some x else none) = l.filter p
  | [] => rfl
  | a :: l => by
    rw [List.filterMap_cons, List.filter_cons, fm_if p l]
    cases p a <;> rfl
theorem fm_ifm {α β : Type} (p : α → Bool) (g : α → β) : ∀ l : List α, (l.filterMap fun x => if p x = true then some (g x) else none) = (l.filter p).map g
  | [] => rfl
  | a :: l => by
    rw [List.filterMap_cons, List.filter_cons, fm_ifm p g l]
    cases p a <;> rfl
section
variable {P : Program} {w : World} {K : PySem.W.Frag} {mg : Str → Option Value} {base : Heap} {C C_NoStatement : Addr}
abbrev s_answered_in : Stmt := top 27
theorem sc_answered_in : FnScope ["debate", "members", "hit", "rows", "statement", "objector"] ["debate", "members"] (defScope s_answered_in) := ⟨rfl, rfl, rfl, by decide +kernel, rfl, by decide +kernel, by decide +kernel⟩
def sp_answered_in (C : Addr) : Sp := fun vs H Q _ => ∃ (m a : Addr) (ns : List Str) (ps : List Pr) (ms : List Str), vs = [.ref m, .ref a] ∧ Deb C H m ns ps ∧ H a = some (.lst (ms.map V.str)) ∧ (∀ x ∈ ms, x ∈ ns) ∧ ms.length ≤ 1000 ∧
  ∀ p H', H p = none → Ex H H' → H' p = some (.lst ((answL ns ps ms).map V.str)) → Q (.ref p) H'
theorem has_answered_in (T : Txt K mg) (d : Def K mg "answered_in" s_answered_in) (d_hit_by : Has P w K mg base CX0 "hit_by" ["debate", "members"] 1 (sp_hit_by C)) (D : DTxt K mg C) :
    Has P w K mg base CX0 "answered_in" ["debate", "members"] 2 (sp_answered_in C) := by
  obtain ⟨f, fd, F, m⟩ := d
  have sc := sc_answered_in
  refine ⟨f, fd, F.ok (k := 1) sc (fun vs H Q E h => (by first | (obtain ⟨h, _⟩ := h; rw [h]; rfl) | (obtain ⟨_, h, _⟩ := h; rw [h]; rfl) | (obtain ⟨_, _, h, _⟩ := h; rw [h]; rfl) | (obtain ⟨_, _, _, h, _⟩ := h; rw [h]; rfl) | (obtain ⟨_, _, _, _, h, _⟩ := h; rw [h]; rfl) | (obtain ⟨_, _, _, _, _, h, _⟩ := h; rw [h]; rfl) | (obtain ⟨_, _, _, _, _, _, h, _⟩ := h; rw [h]; rfl) | (obtain ⟨_, _, _, _, _, _, _, h, _⟩ := h; rw [h]; rfl) | (obtain ⟨_, _, _, _, _, _, _, _, h, _⟩ := h; rw [h]; rfl) | (obtain ⟨_, _, _, _, _, _, _, _, _, h, _⟩ := h; rw [h]; rfl) | (obtain ⟨_, _, _, _, _, _, _, _, _, _, h, _⟩ := h; rw [h]; rfl))) (fun cdv A outer s H vs Q E hr h => ?_), m, F.kp, F.binds fun _ _ _ _ _ _ us hl => match us, hl with | [_, _], _ => rfl⟩
  obtain ⟨m, a, ns, ps, ms, rfl, dm, ha, hin, hml, q⟩ := h
  refine ⟨_, ((pss_cons (ps_set (i := 2) sc.nd rfl (by first | exact Or.inl rfl | exact Or.inr rfl) (pe_has d_hit_by (hr.mono (by decide)) pass0 (by exact (pa_cons (pv 0) (pa_cons (pv 1) pa_nil)))))
    (pss_cons (ps_set (i := 3) sc.nd rfl (by first | exact Or.inl rfl | exact Or.inr rfl) (pe_fldK K rfl (pv 0) rfl))
    (pss_one (ps_ret (pe_lock (pe_lc (own := [("statement", 4)]) rfl sc.nd (pi_keys (pv 3)) (blkOk_by (own := [("statement", 4)]) (N := ["debate", "members", "hit", "rows", "statement", "objector"]) (sc := defScope s_answered_in) (by decide +kernel)) (fun _ _ _ _ _ => (pg_name (i := 4) sc.nd rfl (by first | exact Or.inl rfl | exact Or.inr rfl))) (fun _ _ _ _ _ => (pts_one (pt_val (pe_callB (cr_allK K rfl rfl) (by rfl) T.b_all (by decide +kernel) (pa_cons (pe_lc (own := [("objector", 5)]) rfl sc.nd (pi_listK K rfl (pe_dget (hu_of hr) (pv 3) (pv 4) (fun _ _ => rfl))) (blkOk_nest (own := [("objector", 5)]) (N := ["debate", "members", "hit", "rows", "statement", "objector"]) (sc := defScope s_answered_in) rfl (by decide +kernel)) (fun _ _ _ _ _ => (pg_name (i := 5) sc.nd rfl (by first | exact Or.inl rfl | exact Or.inr rfl))) (fun _ _ _ _ _ => pts_nil) (fun _ _ _ _ _ => (pe_cmp (pc_din (hu_of hr) (pv 5) (pv 2)) (by rfl)))) pa_nil))))) (fun _ _ _ _ _ => (pv 4))))))))), ?_⟩
  refine ⟨_, rfl, _, rfl, m, a, ns, ps, ms, rfl, dm, ha, hin, hml, fun p0 kvs H1 hp0 e1 hk hh => ?_⟩
  have lp := dm.lp
  have ln := dm.ln
  obtain ⟨dx, l1, l2, d1, d2, a1, a2, ws, hm0, h1, h2, hW, h30, h4, h50, h6⟩ := dm.ex
  have hm := e1 _ _ hm0
  have h3 := e1 _ _ h30
  have h5 := fun n hn => e1 _ _ (h50 n hn)
  refine ⟨_, rfl, m, C, dx, _, .ref d1, rfl, hm, D.cl, D.nR, look_R _ _ _ _, ?_⟩
  refine ⟨d1, _, h3, trivial, fun od => ⟨_, rfl, d1, od, rfl, Or.inl ⟨_, upd_same, fun Dd hD => ?_⟩⟩⟩
  have p0d : p0 ≠ d1 := fun q => by rw [q, h30] at hp0; cases hp0
  refine lcK (S := StR) (f := fun k => match k with | .inr x => if ansB ps ms x then some x else none | .inl _ => none) st_stays upd_same hD (by unfold rowsV; rw [List.length_map]; omega) (fun k H' e hk' => ?_) (fun H' md => ?_)
  · obtain ⟨⟨k', v'⟩, hkm, rfl⟩ := List.mem_map.mp hk'
    obtain ⟨x, hx, hkx⟩ := List.mem_map.mp hkm
    cases hkx
    intro Kn Ky kn ky
    refine ⟨rfl, ?_⟩
    have hd1 := e _ _ (upd_same (H := H1) (a := d1) (o := .frz od (.dK (rowsV ns a1))))
    have g1 : DGet H' d1 (.str x) (some (.ref (a1 x))) := .inl ⟨_, .inr x, .inr ⟨_, hd1⟩, rfl, (valV_rows hx).symm⟩
    have hr := h5 x hx
    have r1 : (a1 x) ≠ d1 := fun q => by rw [q, h3] at hr; cases hr
    have hr' := e _ _ (lock_get (f := .frz od (.dK (rowsV ns a1))) hr r1)
    have hk2 := e _ _ (lock_get (f := .frz od (.dK (rowsV ns a1))) hk p0d)
    refine ⟨_, rfl, _, rfl, d1, _, rfl, g1, a1 x, rfl, ⟨_, SqL.of hr'⟩, fun D2 hD2 => ?_⟩
    refine lcL (R := StR) (S := BlR) (f := fun o => some (hitB ps ms o)) (xs := objectors ps x) st_stays bl_stays (fun _ e => SqL.of (e _ _ hr')) (strs_self _) hD2 (by have := objectors_len ps x; omega) (fun v o H2 e2 hv ho Kn2 Ky2 kn2 ky2 => ?_) (fun H2 md2 => ?_)
    · have hv' : v = .str o := hv
      subst hv'
      refine ⟨rfl, ?_⟩
      have g2 : DGet H2 p0 (.str o) (valV kvs (.inr o)) := .inl ⟨_, .inr o, .inl (e2 _ _ hk2), rfl, rfl⟩
      refine ⟨_, rfl, _, rfl, p0, _, rfl, g2, ?_⟩
      rw [hh o]
      exact ky2 _ _ _ (Ex.refl _) rfl fun _ _ _ => rfl
    · obtain ⟨_, ex, ws2, hD2', hp⟩ := md2
      rw [bls_eq hp] at hD2'
      refine ⟨D2, _, rfl, SqL.of hD2', _, rfl, ?_⟩
      have eb : (List.filterMap (fun o => some (hitB ps ms o)) (objectors ps x)).all id = ansB ps ms x := by
        unfold ansB
        simp [List.all_map, Function.comp_def]
      rw [eb]
      cases hb : ansB ps ms x with
      | true => exact iteT ⟨_, rfl, ky _ x _ ex (by simp [hb]) fun _ _ _ => rfl⟩
      | false => exact iteF (kn _ ex (by simp [hb]))
  · obtain ⟨_, ex, ws2, hD', hp⟩ := md
    refine ⟨ex _ _ upd_same, ?_⟩
    have Dd1 : Dd ≠ d1 := fun q => by rw [q, upd_same] at hD; cases hD
    have hD1 : H1 Dd = none := by rw [upd_ne Dd1] at hD; exact hD
    refine q Dd _ (fresh_back e1 hD1) (e1.trans (ex_lock h3 ex)) ?_
    rw [upd_ne Dd1, hD', strs_eq hp]
    congr 3
    unfold answL rowsV
    rw [List.map_map, List.filterMap_map]
    exact fm_if _ _
end
end K73
set_option maxRecDepth 100000
set_option maxHeartbeats 4000000
namespace K73
open Enc (At enc)
open PySem L2 Evl
section
variable {P : Program} {w : World} {K : PySem.W.Frag} {mg : Str → Option Value} {base : Heap} {C C_NoStatement : Addr}
theorem nms_in {ns ms : List Str} (h : Nms ns) (hs : ∀ x ∈ ms, x ∈ ns) : Nms ms := fun n hn => h n (hs n hn)
abbrev s_least_lot : Stmt := top 28
theorem sc_least_lot : FnScope ["debate", "members", "later"] ["debate"] (defScope s_least_lot) := ⟨rfl, rfl, rfl, by decide +kernel, rfl, by decide +kernel, by decide +kernel⟩
def sp_least_lot (C : Addr) : Sp := fun vs H Q _ => ∃ (m : Addr) (ns : List Str) (ps : List Pr), vs = [.ref m] ∧ Deb C H m ns ps ∧ ∀ p H', H p = none → Ex H H' → H' p = some (.lst ((leastL ns ps).map V.str)) → Q (.ref p) H'
theorem has_least_lot (T : Txt K mg) (d : Def K mg "least_lot" s_least_lot) (d_answered_in : Has P w K mg base CX0 "answered_in" ["debate", "members"] 2 (sp_answered_in C))  :
    Has P w K mg base CX0 "least_lot" ["debate"] 3 (sp_least_lot C) := by
  obtain ⟨f, fd, F, m⟩ := d
  have sc := sc_least_lot
  refine ⟨f, fd, F.ok (k := 2) sc (fun vs H Q E h => (by first | (obtain ⟨h, _⟩ := h; rw [h]; rfl) | (obtain ⟨_, h, _⟩ := h; rw [h]; rfl) | (obtain ⟨_, _, h, _⟩ := h; rw [h]; rfl) | (obtain ⟨_, _, _, h, _⟩ := h; rw [h]; rfl) | (obtain ⟨_, _, _, _, h, _⟩ := h; rw [h]; rfl) | (obtain ⟨_, _, _, _, _, h, _⟩ := h; rw [h]; rfl) | (obtain ⟨_, _, _, _, _, _, h, _⟩ := h; rw [h]; rfl) | (obtain ⟨_, _, _, _, _, _, _, h, _⟩ := h; rw [h]; rfl) | (obtain ⟨_, _, _, _, _, _, _, _, h, _⟩ := h; rw [h]; rfl) | (obtain ⟨_, _, _, _, _, _, _, _, _, h, _⟩ := h; rw [h]; rfl) | (obtain ⟨_, _, _, _, _, _, _, _, _, _, h, _⟩ := h; rw [h]; rfl))) (fun cdv A outer s H vs Q E hr h => ?_), m, F.kp, F.binds fun _ _ _ _ _ _ us hl => match us, hl with | [_], _ => rfl⟩
  obtain ⟨m, ns, ps, rfl, dm, q⟩ := h
  refine ⟨_, ((pss_cons (ps_set (i := 1) sc.nd rfl (by first | exact Or.inl rfl | exact Or.inr rfl) (pe_lst pa_nil))
    (pss_one (ps_while PassesOwn.never (pt_val pe_bl)
      (pss_cons (ps_set (i := 2) sc.nd rfl (by first | exact Or.inl rfl | exact Or.inr rfl) (pe_has d_answered_in (hr.mono (by decide)) pass0 (by exact (pa_cons (pv 0) (pa_cons (pv 1) pa_nil)))))
      (pss_cons (ps_if (pt_cmpR (op_eqA (α := List (Str)) (by decide) (hu64 hr)) (pv 2) (pv 1) (nomark _))
        (pss_one (ps_ret (pv 1)))
        pss_nil)
      (pss_one (ps_set (i := 1) sc.nd rfl (by first | exact Or.inl rfl | exact Or.inr rfl) (pv 2))))))))), ?_⟩
  have ln := dm.ln
  refine ⟨(by show 0 ≤ _; exact Nat.zero_le _), fun p0 hp0 => ?_⟩
  refine ⟨fun n σ H' => ∃ k p u, n + k = ns.length ∧ σ = [some (.ref m), some (.ref p), u] ∧ H p = none ∧ Ex H H' ∧ H' p = some (.lst ((iterL ns ps k).map V.str)), ⟨ns.length, 0, p0, none, rfl, rfl, hp0, Ex.new hp0, upd_same⟩, ?_⟩
  rintro n σ H' ⟨k, p, u, hk, rfl, hp, e, hl⟩
  refine ⟨_, rfl, fun σ' H2 => ∃ m', m' < n ∧ ∃ k p u, m' + k = ns.length ∧ σ' = [some (.ref m), some (.ref p), u] ∧ H p = none ∧ Ex H H2 ∧ H2 p = some (.lst ((iterL ns ps k).map V.str)), fun σ' H2 h => h, ?_⟩
  refine ⟨_, rfl, _, rfl, m, p, ns, ps, iterL ns ps k, rfl, dm.mono e, hl, iterL_in k, Nat.le_trans (iterL_sub k).length_le ln, fun p2 H2 hp2 e2 hl2 => ?_⟩
  refine ⟨_, rfl, _, rfl, iterL ns ps (k + 1), iterL ns ps k, (nms_in dm.nms (iterL_in (k + 1))).at_ hl2, (nms_in dm.nms (iterL_in k)).at_ (e2 _ _ hl), _, rfl, ?_⟩
  by_cases hq : iterL ns ps (k + 1) = iterL ns ps k
  · rw [decide_eq_true hq]
    refine iteT ⟨_, rfl, q p H2 hp (e.trans e2) ?_⟩
    rw [← leastL_of hq]
    exact e2 _ _ hl
  · rw [decide_eq_false hq]
    refine iteF ⟨_, rfl, n - 1, ?_, k + 1, p2, _, ?_, rfl, fresh_back e hp2, e.trans e2, hl2⟩
    · have : ¬ ns.length ≤ k := fun h => hq (iterL_fix h)
      omega
    · have : ¬ ns.length ≤ k := fun h => hq (iterL_fix h)
      omega
/-- all objectors of ms are hit by ms -/
def heldB (ps : List Pr) (ms : List Str) : Bool := ms.all fun y => ansB ps ms y
abbrev s_unanswered_in : Stmt := top 29
theorem sc_unanswered_in : FnScope ["debate", "members", "hit", "member", "objector"] ["debate", "members"] (defScope s_unanswered_in) := ⟨rfl, rfl, rfl, by decide +kernel, rfl, by decide +kernel, by decide +kernel⟩
def sp_unanswered_in (C : Addr) : Sp := fun vs H Q _ => ∃ (m a : Addr) (ns : List Str) (ps : List Pr) (ms : List Str), vs = [.ref m, .ref a] ∧ Deb C H m ns ps ∧ H a = some (.lst (ms.map V.str)) ∧ (∀ x ∈ ms, x ∈ ns) ∧ ms.length ≤ 1000 ∧
  ∀ v H', Ex H H' → ((heldB ps ms = true ∧ v = .non) ∨ (heldB ps ms = false ∧ ∃ p, v = .ref p)) → Q v H'
theorem has_unanswered_in (T : Txt K mg) (d : Def K mg "unanswered_in" s_unanswered_in) (d_hit_by : Has P w K mg base CX0 "hit_by" ["debate", "members"] 1 (sp_hit_by C)) (D : DTxt K mg C) :
    Has P w K mg base CX0 "unanswered_in" ["debate", "members"] 2 (sp_unanswered_in C) := by
  obtain ⟨f, fd, F, m⟩ := d
  have sc := sc_unanswered_in
  refine ⟨f, fd, F.ok (k := 1) sc (fun vs H Q E h => (by first | (obtain ⟨h, _⟩ := h; rw [h]; rfl) | (obtain ⟨_, h, _⟩ := h; rw [h]; rfl) | (obtain ⟨_, _, h, _⟩ := h; rw [h]; rfl) | (obtain ⟨_, _, _, h, _⟩ := h; rw [h]; rfl) | (obtain ⟨_, _, _, _, h, _⟩ := h; rw [h]; rfl) | (obtain ⟨_, _, _, _, _, h, _⟩ := h; rw [h]; rfl) | (obtain ⟨_, _, _, _, _, _, h, _⟩ := h; rw [h]; rfl) | (obtain ⟨_, _, _, _, _, _, _, h, _⟩ := h; rw [h]; rfl) | (obtain ⟨_, _, _, _, _, _, _, _, h, _⟩ := h; rw [h]; rfl) | (obtain ⟨_, _, _, _, _, _, _, _, _, h, _⟩ := h; rw [h]; rfl) | (obtain ⟨_, _, _, _, _, _, _, _, _, _, h, _⟩ := h; rw [h]; rfl))) (fun cdv A outer s H vs Q E hr h => ?_), m, F.kp, F.binds fun _ _ _ _ _ _ us hl => match us, hl with | [_, _], _ => rfl⟩
  obtain ⟨m, a, ns, ps, ms, rfl, dm, ha, hin, hml, q⟩ := h
  refine ⟨_, ((pss_cons (ps_set (i := 2) sc.nd rfl (by first | exact Or.inl rfl | exact Or.inr rfl) (pe_has d_hit_by (hr.mono (by decide)) pass0 (by exact (pa_cons (pv 0) (pa_cons (pv 1) pa_nil)))))
    (pss_cons (ps_for PassesOwn.never rfl (pi_listK K rfl (pv 1)) (pg_name (i := 3) sc.nd rfl (by first | exact Or.inl rfl | exact Or.inr rfl))
      (pss_one (ps_for PassesOwn.never rfl (pi_listK K rfl (pe_dget (hu_of hr) (pe_fldK K rfl (pv 0) rfl) (pv 3) (fun _ _ => rfl))) (pg_name (i := 4) sc.nd rfl (by first | exact Or.inl rfl | exact Or.inr rfl))
        (pss_one (ps_if (pt_cmp (pc_dnotin (hu_of hr) (pv 4) (pv 2)) (by rfl))
          (pss_one (ps_ret (pe_tup (pa_cons (pv 3) (pa_cons (pv 4) pa_nil)))))
          pss_nil)))))
    (pss_one (ps_ret pe_non))))), ?_⟩
  refine ⟨_, rfl, _, rfl, m, a, ns, ps, ms, rfl, dm, ha, hin, hml, fun p0 kvs H1 hp0 e1 hk hh => ?_⟩
  have lp := dm.lp
  have dm1 := dm.mono e1
  refine ⟨_, rfl, a, rfl, ⟨_, SqL.of (e1 _ _ ha)⟩, forG ms.length (fun i σ H' => (∃ u u', σ = [some (.ref m), some (.ref a), some (.ref p0), u, u']) ∧ Ex H1 H' ∧ ∀ y ∈ ms.take i, ansB ps ms y = true) ⟨⟨_, _, rfl⟩, Ex.refl _, fun y hy => by simp at hy⟩ (fun i σ H' hi ⟨_, e, _⟩ => ⟨_, V.str ms[i], SqL.of (e _ _ (e1 _ _ ha)), by rw [List.getElem?_map, List.getElem?_eq_getElem hi]; rfl⟩) (fun σ H' ⟨_, e, _⟩ => ⟨_, SqL.of (e _ _ (e1 _ _ ha)), by rw [List.length_map]; exact Nat.le_refl _⟩) ?_ ?_⟩
  · rintro i σ H' x H2 hi ⟨⟨u, u', rfl⟩, e, hans⟩ ⟨rfl, hx⟩
    obtain ⟨y, hy, rfl⟩ := map_get (hx _ (SqL.of (e _ _ (e1 _ _ ha))))
    have yn := hin y (List.mem_of_getElem? hy)
    obtain ⟨dx, l1, l2, d1, d2, a1, a2, ws, hm, h1, h2, hW, h3, h4, h5, h6⟩ := (dm1.mono e).ex
    have g1 : DGet H2 d1 (.str y) (some (.ref (a1 y))) := .inl ⟨_, .inr y, .inl h3, rfl, (valV_rows yn).symm⟩
    have hr := h5 y yn
    refine ⟨_, rfl, m, C, dx, _, .ref d1, rfl, hm, D.cl, D.nR, look_R _ _ _ _, _, rfl, d1, _, rfl, g1, a1 y, rfl, ⟨_, SqL.of hr⟩, forG (objectors ps y).length (fun j σ H' => (∃ u', σ = [some (.ref m), some (.ref a), some (.ref p0), some (.str y), u']) ∧ Ex H2 H' ∧ ∀ z ∈ (objectors ps y).take j, hitB ps ms z = true) ⟨⟨_, rfl⟩, Ex.refl _, fun z hz => by simp at hz⟩ (fun j σ H' hj ⟨_, e, _⟩ => ⟨_, V.str (objectors ps y)[j], SqL.of (e _ _ hr), by rw [List.getElem?_map, List.getElem?_eq_getElem hj]; rfl⟩) (fun σ H' ⟨_, e, _⟩ => ⟨_, SqL.of (e _ _ hr), by rw [List.length_map]; exact Nat.le_refl _⟩) ?_ ?_⟩
    · rintro j σ H3 x H4 hj ⟨⟨u2, rfl⟩, e3, hh3⟩ ⟨rfl, hx⟩
      obtain ⟨z, hz, rfl⟩ := map_get (hx _ (SqL.of (e3 _ _ hr)))
      have g2 : DGet H4 p0 (.str z) (valV kvs (.inr z)) := .inl ⟨_, .inr z, .inl (e3 _ _ (e _ _ hk)), rfl, rfl⟩
      refine ⟨_, rfl, _, rfl, p0, _, rfl, g2, _, rfl, ?_⟩
      rw [hh z]
      cases hb : hitB ps ms z with
      | true =>
        refine iteF ⟨⟨_, rfl⟩, e3, fun z' hz' => ?_⟩
        rw [take_more hz] at hz'
        rcases List.mem_append.mp hz' with g | g
        · exact hh3 z' g
        · rw [List.mem_singleton.mp g]; exact hb
      | false =>
        refine iteT ⟨_, rfl, _, rfl, (by show 2 ≤ sizeLine; decide), fun p hp => q _ _ (e1.trans (e.trans (e3.trans (Ex.new hp)))) (Or.inr ⟨?_, _, rfl⟩)⟩
        cases hc : heldB ps ms with
        | false => rfl
        | true =>
          have h1 := List.all_eq_true.mp hc y (List.mem_of_getElem? hy)
          have h2 := List.all_eq_true.mp h1 z (List.mem_of_getElem? hz)
          rw [hb] at h2
          cases h2
    · rintro σ H3 ⟨⟨u2, rfl⟩, e3, hh3⟩
      refine ⟨⟨_, _, rfl⟩, e.trans e3, fun y' hy' => ?_⟩
      rw [take_more hy] at hy'
      rcases List.mem_append.mp hy' with g | g
      · exact hans y' g
      · rw [List.mem_singleton.mp g]
        rw [List.take_length] at hh3
        exact List.all_eq_true.mpr hh3
  · rintro σ H' ⟨_, e, hans⟩
    rw [List.take_length] at hans
    exact q _ _ (e1.trans e) (Or.inl ⟨List.all_eq_true.mpr hans, rfl⟩)
def calmB (ps : List Pr) (ms : List Str) (x : Str) : Bool := !decide (x ∈ objectors ps x) && !ms.any fun y => decide (y ∈ objectors ps x) || decide (y ∈ objected ps x)
abbrev s_calm_with : Stmt := top 31
theorem sc_calm_with : FnScope ["debate", "lot", "statement", "hits", "hit", "member"] ["debate", "lot", "statement"] (defScope s_calm_with) := ⟨rfl, rfl, rfl, by decide +kernel, rfl, by decide +kernel, by decide +kernel⟩
def sp_calm_with (C : Addr) : Sp := fun vs H Q _ => ∃ (m a : Addr) (ns : List Str) (ps : List Pr) (ms : List Str) (x : Str), vs = [.ref m, .ref a, .str x] ∧ Deb C H m ns ps ∧ H a = some (.lst (ms.map V.str)) ∧ (∀ y ∈ ms, y ∈ ns) ∧ ms.length ≤ 1000 ∧ x ∈ ns ∧
  ∀ H', Ex H H' → Q (.bl (calmB ps ms x)) H'
theorem has_calm_with (T : Txt K mg) (d : Def K mg "calm_with" s_calm_with)  (D : DTxt K mg C) :
    Has P w K mg base CX0 "calm_with" ["debate", "lot", "statement"] 1 (sp_calm_with C) := by
  obtain ⟨f, fd, F, m⟩ := d
  have sc := sc_calm_with
  refine ⟨f, fd, F.ok (k := 0) sc (fun vs H Q E h => (by first | (obtain ⟨h, _⟩ := h; rw [h]; rfl) | (obtain ⟨_, h, _⟩ := h; rw [h]; rfl) | (obtain ⟨_, _, h, _⟩ := h; rw [h]; rfl) | (obtain ⟨_, _, _, h, _⟩ := h; rw [h]; rfl) | (obtain ⟨_, _, _, _, h, _⟩ := h; rw [h]; rfl) | (obtain ⟨_, _, _, _, _, h, _⟩ := h; rw [h]; rfl) | (obtain ⟨_, _, _, _, _, _, h, _⟩ := h; rw [h]; rfl) | (obtain ⟨_, _, _, _, _, _, _, h, _⟩ := h; rw [h]; rfl) | (obtain ⟨_, _, _, _, _, _, _, _, h, _⟩ := h; rw [h]; rfl) | (obtain ⟨_, _, _, _, _, _, _, _, _, h, _⟩ := h; rw [h]; rfl) | (obtain ⟨_, _, _, _, _, _, _, _, _, _, h, _⟩ := h; rw [h]; rfl))) (fun cdv A outer s H vs Q E hr h => ?_), m, F.kp, F.binds fun _ _ _ _ _ _ us hl => match us, hl with | [_, _, _], _ => rfl⟩
  obtain ⟨m, a, ns, ps, ms, x, rfl, dm, ha, hin, hml, hx, q⟩ := h
  refine ⟨_, ((pss_cons (ps_asg (pe_tup (pa_cons (pe_dget (hu_of hr) (pe_fldK K rfl (pv 0) rfl) (pv 2) (fun _ _ => rfl)) (pa_cons (pe_dget (hu_of hr) (pe_fldK K rfl (pv 0) rfl) (pv 2) (fun _ _ => rfl)) pa_nil))) (pg_tupK (n := 2) K rfl rfl (pgs_cons (pg_name (i := 3) sc.nd rfl (by first | exact Or.inl rfl | exact Or.inr rfl)) (pgs_cons (pg_name (i := 4) sc.nd rfl (by first | exact Or.inl rfl | exact Or.inr rfl)) pgs_nil))))
    (pss_one (ps_ret (pe_and (pe_cmpR (op_notInA (α := Str) (by decide) (hu65 hr)) (pv 2) (pv 3) (by rfl)) (pe_one (pe_not (pe_callB (cr_anyK K rfl rfl) (by rfl) T.b_any (by decide +kernel) (pa_cons (pe_lc (own := [("member", 5)]) rfl sc.nd (pi_listK K rfl (pv 1)) (blkOk_by (own := [("member", 5)]) (N := ["debate", "lot", "statement", "hits", "hit", "member"]) (sc := defScope s_calm_with) (by decide +kernel)) (fun _ _ _ _ _ => (pg_name (i := 5) sc.nd rfl (by first | exact Or.inl rfl | exact Or.inr rfl))) (fun _ _ _ _ _ => pts_nil) (fun _ _ _ _ _ => (pe_or (pe_cmpR (op_inA (α := Str) (by decide) (hu65 hr)) (pv 5) (pv 3) (by rfl)) (pe_one (pe_cmpR (op_inA (α := Str) (by decide) (hu65 hr)) (pv 5) (pv 4) (by rfl)))))) pa_nil))))))))), ?_⟩
  obtain ⟨dx, l1, l2, d1, d2, a1, a2, ws, hm, h1, h2, hW, h3, h4, h5, h6⟩ := dm.ex
  have g1 : DGet H d1 (.str x) (some (.ref (a1 x))) := .inl ⟨_, .inr x, .inl h3, rfl, (valV_rows hx).symm⟩
  have g2 : DGet H d2 (.str x) (some (.ref (a2 x))) := .inl ⟨_, .inr x, .inl h4, rfl, (valV_rows hx).symm⟩
  refine ⟨_, rfl, m, C, dx, _, .ref d1, rfl, hm, D.cl, D.nR, look_R _ _ _ _, _, rfl, d1, _, rfl, g1, _, rfl, m, C, dx, _, .ref d2, rfl, hm, D.cl, D.nD, look_D _ _ _ _, _, rfl, d2, _, rfl, g2, ?_⟩
  refine ⟨(by show 2 ≤ sizeLine; decide), fun p hp => ⟨p, _, rfl, SqT.of upd_same, rfl, _, _, rfl, _, _, rfl, ⟨rfl, ?_⟩⟩⟩
  have e1 : Ex H (upd H p (.tup [.ref (a1 x), .ref (a2 x)])) := Ex.new hp
  have o1 : Nms (objectors ps x) := nms_in dm.nms fun y hy => (dm.mem _ (mem_objectors.mp hy)).1
  have o2 : Nms (objected ps x) := nms_in dm.nms fun y hy => (dm.mem _ (mem_objected.mp hy)).2
  have r1 := e1 _ _ (h5 x hx)
  have r2 := e1 _ _ (h6 x hx)
  have ra := e1 _ _ ha
  have kx := dm.nms.ok x hx
  generalize upd H p (.tup [.ref (a1 x), .ref (a2 x)]) = H1 at e1 r1 r2 ra
  refine ⟨_, rfl, _, rfl, x, objectors ps x, at_str kx, o1.at_ r1, _, rfl, ?_⟩
  by_cases hxx : x ∈ objectors ps x
  · rw [decide_eq_true hxx]
    have z := q _ e1
    unfold calmB at z
    rw [decide_eq_true hxx] at z
    exact iteF z
  · rw [decide_eq_false hxx]
    refine iteT ⟨_, rfl, a, rfl, ⟨_, SqL.of ra⟩, fun Dd hD => lcL (R := StR) (S := BlR) (f := fun y => some (decide (y ∈ objectors ps x) || decide (y ∈ objected ps x))) (xs := ms) st_stays bl_stays (fun _ e => SqL.of (e _ _ ra)) (strs_self _) hD (by omega) (fun v y H2 e2 hv hy Kn Ky kn ky => ?_) (fun H2 md => ?_)⟩
    · have hv' : v = .str y := hv
      subst hv'
      have ky' := nm_ok (dm.nms y (hin y hy))
      refine ⟨rfl, _, rfl, _, rfl, y, objectors ps x, at_str ky', o1.at_ (e2 _ _ r1), _, rfl, ?_⟩
      by_cases h1 : y ∈ objectors ps x
      · rw [decide_eq_true h1]
        exact iteT (ky _ _ _ (Ex.refl _) (by simp [h1]) fun _ _ _ => rfl)
      · rw [decide_eq_false h1]
        exact iteF ⟨_, rfl, _, rfl, y, objected ps x, at_str ky', o2.at_ (e2 _ _ r2), ky _ _ _ (Ex.refl _) (by simp [h1]) fun _ _ _ => rfl⟩
    · obtain ⟨_, ex, ws2, hD', hp'⟩ := md
      rw [bls_eq hp'] at hD'
      refine ⟨Dd, _, rfl, SqL.of hD', _, rfl, ?_⟩
      have z := q _ (e1.trans ex)
      unfold calmB at z
      rw [decide_eq_false hxx] at z
      have eb : (List.filterMap (fun y => some (decide (y ∈ objectors ps x) || decide (y ∈ objected ps x))) ms).any id = ms.any fun y => decide (y ∈ objectors ps x) || decide (y ∈ objected ps x) := by
        simp [List.any_map, Function.comp_def]
      rw [eb]
      exact z
end
end K73
set_option maxRecDepth 100000
set_option maxHeartbeats 4000000
namespace K73
open Enc (At enc)
open PySem L2 Evl
/-! ### lists grown one by one -/
section
variable {α : Type}
def growStep (keep : List α → α → Bool) (f : List (List α)) (x : α) : List (List α) := f ++ (f.filter fun l => keep l x).map (· ++ [x])
def growF (keep : List α → α → Bool) (xs : List α) : List (List α) := xs.foldl (growStep keep) [[]]
theorem growF_snoc (keep : List α → α → Bool) (xs : List α) (x : α) : growF keep (xs ++ [x]) = growStep keep (growF keep xs) x := by
  unfold growF
  rw [List.foldl_append]
  rfl
theorem snoc_ind {P : List α → Prop} (h0 : P []) (hs : ∀ xs x, P xs → P (xs ++ [x])) (xs : List α) : P xs := by
  have h : ∀ ys : List α, P ys.reverse := fun ys => by
    induction ys with
    | nil => exact h0
    | cons y ys ih => rw [List.reverse_cons]; exact hs _ _ ih
  have := h xs.reverse
  rwa [List.reverse_reverse] at this
theorem growF_len (keep : List α → α → Bool) (xs : List α) : (growF keep xs).length ≤ 2 ^ xs.length := by
  induction xs using snoc_ind with
  | h0 => exact Nat.le_refl 1
  | hs xs x ih =>
    rw [growF_snoc]
    unfold growStep
    rw [List.length_append, List.length_map, List.length_append, List.length_singleton, Nat.pow_succ]
    have := List.length_filter_le (fun l => keep l x) (growF keep xs)
    omega
theorem growF_sub (keep : List α → α → Bool) (xs : List α) : ∀ l ∈ growF keep xs, l.Sublist xs := by
  induction xs using snoc_ind with
  | h0 => intro l hl; rw [List.mem_singleton.mp (show l ∈ [[]] from hl)]; exact List.Sublist.refl _
  | hs xs x ih =>
    intro l hl
    rw [growF_snoc] at hl
    rcases List.mem_append.mp hl with h | h
    · exact (ih l h).trans (List.sublist_append_left _ _)
    · obtain ⟨l', h1, rfl⟩ := List.mem_map.mp h
      exact (ih l' (List.mem_filter.mp h1).1).append (List.Sublist.refl _)
/-- who stands in a list was kept once -/
theorem growF_kept (keep : List α → α → Bool) (xs : List α) : ∀ l ∈ growF keep xs, ∀ x ∈ l, ∃ l', keep l' x = true := by
  induction xs using snoc_ind with
  | h0 => intro l hl x hx; rw [List.mem_singleton.mp (show l ∈ [[]] from hl)] at hx; cases hx
  | hs xs y ih =>
    intro l hl x hx
    rw [growF_snoc] at hl
    rcases List.mem_append.mp hl with h | h
    · exact ih l h x hx
    · obtain ⟨l', h1, rfl⟩ := List.mem_map.mp h
      obtain ⟨h2, h3⟩ := List.mem_filter.mp h1
      rcases List.mem_append.mp hx with h4 | h4
      · exact ih l' h2 x h4
      · rw [List.mem_singleton.mp h4]; exact ⟨l', h3⟩
/-- all parts -/
def allP (xs : List α) : List (List α) := growF (fun _ _ => true) xs
theorem allP_snoc (xs : List α) (x : α) : allP (xs ++ [x]) = allP xs ++ (allP xs).map (· ++ [x]) := by
  unfold allP
  rw [growF_snoc]
  unfold growStep
  rw [List.filter_eq_self.mpr fun _ _ => rfl]
theorem allP_filter (p : α → Bool) (xs : List α) : xs.filter p ∈ allP xs := by
  induction xs using snoc_ind with
  | h0 => exact List.mem_singleton.mpr rfl
  | hs xs x ih =>
    rw [allP_snoc, List.filter_append, List.mem_append]
    cases h : p x with
    | true =>
      refine .inr (List.mem_map.mpr ⟨_, ih, ?_⟩)
      simp [h]
    | false =>
      refine .inl ?_
      simpa [h] using ih
theorem allP_sub {xs l : List α} (h : l ∈ allP xs) : l.Sublist xs := growF_sub _ _ l h
theorem allP_len (xs : List α) : (allP xs).length ≤ 2 ^ xs.length := growF_len _ _
end
end K73
set_option maxRecDepth 100000
set_option maxHeartbeats 4000000
namespace K73
open Enc (At enc)
open PySem L2 Evl
theorem iteD {p : Prop} {i : Decidable p} {A B : Prop} (h : p) (a : A) : if @decide p i = true then A else B := by rw [@decide_eq_true p i h]; exact a
theorem iteDn {p : Prop} {i : Decidable p} {A B : Prop} (h : ¬ p) (b : B) : if @decide p i = true then A else B := by rw [@decide_eq_false p i h]; exact b
theorem iteND {p : Prop} {i : Decidable p} {A B : Prop} (h : p) (b : B) : if (!@decide p i) = true then A else B := by rw [@decide_eq_true p i h]; exact b
theorem iteNDn {p : Prop} {i : Decidable p} {A B : Prop} (h : ¬ p) (a : A) : if (!@decide p i) = true then A else B := by rw [@decide_eq_false p i h]; exact a
/-! ### a list of lists that grows by itself -/
section
variable {α : Type} [Enc α]
theorem catTurn {p l : Addr} {H1 H2 : Hp} {lot : List α} {v : V} {x : α} (e : Ex H1 H2) (hp : ∃ o, H1 p = some o) (hlot : At (del H1 p) (.ref l) lot) (hx : At (del H1 p) v x) (hz : lot.length ≤ 100000) {Ky : V → Hp → Prop}
    (ky : ∀ y z H', Ex H2 H' → some (lot ++ [x]) = some z → (∃ l, y = V.ref l ∧ H2 l = none) → (∀ G, Ex H1 G → Grow H2 H' G → Off p (At : Rel (List α)) G y z) → Ky y H') :
    ∃ vs, H2 l = some (.lst vs) ∧ vs.length + 1 ≤ sizeLine ∧ ∀ q1, H2 q1 = none → ∀ p2, (upd H2 q1 (.lst [v])) p2 = none → Ky (.ref p2) (upd (upd H2 q1 (.lst [v])) p2 (.lst (vs ++ [v]))) := by
  obtain ⟨l', vs, q, hl, he⟩ := hlot
  cases q
  have hl1 : H1 l = some (.lst vs) := del_sub _ _ hl
  have s1 : (100001 : Nat) < sizeLine := by decide
  have lenE := he.length
  refine ⟨vs, e _ _ hl1, by omega, fun q1 hq1 p2 hp2 => ky _ _ _ ((Ex.new hq1).trans (Ex.new hp2)) rfl ⟨p2, rfl, fresh_back (Ex.new hq1) hp2⟩ fun G eG gG => ?_⟩
  have hp2' : H2 p2 = none := fresh_back (Ex.new hq1) hp2
  have gp := gG p2 _ hp2' upd_same
  obtain ⟨o, ho⟩ := hp
  have ne : p2 ≠ p := fun q => by rw [q, e _ _ ho] at hp2'; cases hp2'
  exact at_list (by rw [del_ne ne]; exact gp) ((he.mono (del_ex eG)).snoc (Enc.mono (del_ex eG) hx))
theorem Made.imp {β : Type} {S S' : Rel β} {H1 H2 : Hp} {D : Addr} {ys : List β} (h : ∀ G v z, S G v z → S' G v z) (md : Made S H1 D ys H2) : Made S' H1 D ys H2 :=
  let ⟨a, b, ws, c, d⟩ := md; ⟨a, b, ws, c, paired_imp (fun v z q => h _ v z q) d⟩
theorem paired_mem {α β : Type} {F : α → β → Prop} {P : α → Prop} (h : ∀ a b, F a b → P a) : ∀ {l : List α} {m : List β}, Paired F l m → ∀ a ∈ l, P a
  | _, _, .nil, a, ha => by cases ha
  | _, _, .cons r t, a, ha => by
    rcases List.mem_cons.mp ha with e | e
    · rw [e]; exact h _ _ r
    · exact paired_mem h t a e
theorem extDone {p D : Addr} {H H1 H2 : Hp} {vs : List V} {lots ys : List (List α)} (hp : H p = none) (e : Ex H H1) (h1 : H1 p = some (.lst vs)) (he : Each (del H1 p) vs lots) (md : Made (Off p (At : Rel (List α))) H1 D ys H2) (hz : lots.length + ys.length ≤ 100000) :
    ∃ ws, H2 D = some (.lst ws) ∧ H2 p = some (.lst vs) ∧ vs.length + ws.length ≤ sizeLine ∧ Ex H (upd H2 p (.lst (vs ++ ws))) ∧ (upd H2 p (.lst (vs ++ ws))) p = some (.lst (vs ++ ws)) ∧ Each (del (upd H2 p (.lst (vs ++ ws))) p) (vs ++ ws) (lots ++ ys) := by
  obtain ⟨_, ex, ws, hD, hw⟩ := md
  have s1 : (100001 : Nat) < sizeLine := by decide
  have l1 := he.length
  have l2 := hw.length
  refine ⟨ws, hD, ex _ _ h1, by omega, Ex.mut (e.trans ex) hp, upd_same, ?_⟩
  rw [del_upd]
  refine Each.append (he.mono (del_ex ex)) ?_
  have q : Paired (fun v x => At (del (del H2 D) p) v x) ws ys := hw
  have sub : Ex (del (del H2 D) p) (del H2 p) := del_ex del_sub
  exact paired_imp (fun a b h => Enc.mono sub h) q
end
theorem Each.ofAt {α : Type} [Enc α] {H : Hp} {p : Addr} {xs : List α} (h : At H (.ref p) xs) : ∃ vs, H p = some (.lst vs) ∧ Each H vs xs := by
  obtain ⟨q, vs, e, h1, h2⟩ := h
  cases e
  exact ⟨vs, h1, h2⟩
section
variable {P : Program} {w : World} {K : PySem.W.Frag} {mg : Str → Option Value} {base : Heap} {C C_NoStatement : Addr}
/-- the lots of statements without objections among them -/
def calmF (ns : List Str) (ps : List Pr) : List (List Str) := growF (fun l x => calmB ps l x) ns
def heldF (ns : List Str) (ps : List Pr) : List (List Str) := srt ((calmF ns ps).filter fun l => heldB ps l)
abbrev s_held_lots : Stmt := top 30
theorem sc_held_lots : FnScope ["debate", "found", "statement", "lot"] ["debate"] (defScope s_held_lots) := ⟨rfl, rfl, rfl, by decide +kernel, rfl, by decide +kernel, by decide +kernel⟩
def sp_held_lots (C : Addr) : Sp := fun vs H Q _ => ∃ (m : Addr) (ns : List Str) (ps : List Pr), vs = [.ref m] ∧ Deb C H m ns ps ∧ ns.length ≤ 12 ∧ ∀ p H', H p = none → Ex H H' → At H' (.ref p) (heldF ns ps) → Q (.ref p) H'
theorem has_held_lots (T : Txt K mg) (d : Def K mg "held_lots" s_held_lots) (d_calm_with : Has P w K mg base CX0 "calm_with" ["debate", "lot", "statement"] 1 (sp_calm_with C)) (d_unanswered_in : Has P w K mg base CX0 "unanswered_in" ["debate", "members"] 2 (sp_unanswered_in C)) (D : DTxt K mg C) :
    Has P w K mg base CX0 "held_lots" ["debate"] 3 (sp_held_lots C) := by
  obtain ⟨f, fd, F, m⟩ := d
  have sc := sc_held_lots
  refine ⟨f, fd, F.ok (k := 2) sc (fun vs H Q E h => (by first | (obtain ⟨h, _⟩ := h; rw [h]; rfl) | (obtain ⟨_, h, _⟩ := h; rw [h]; rfl) | (obtain ⟨_, _, h, _⟩ := h; rw [h]; rfl) | (obtain ⟨_, _, _, h, _⟩ := h; rw [h]; rfl) | (obtain ⟨_, _, _, _, h, _⟩ := h; rw [h]; rfl) | (obtain ⟨_, _, _, _, _, h, _⟩ := h; rw [h]; rfl) | (obtain ⟨_, _, _, _, _, _, h, _⟩ := h; rw [h]; rfl) | (obtain ⟨_, _, _, _, _, _, _, h, _⟩ := h; rw [h]; rfl) | (obtain ⟨_, _, _, _, _, _, _, _, h, _⟩ := h; rw [h]; rfl) | (obtain ⟨_, _, _, _, _, _, _, _, _, h, _⟩ := h; rw [h]; rfl) | (obtain ⟨_, _, _, _, _, _, _, _, _, _, h, _⟩ := h; rw [h]; rfl))) (fun cdv A outer s H vs Q E hr h => ?_), m, F.kp, F.binds fun _ _ _ _ _ _ us hl => match us, hl with | [_], _ => rfl⟩
  obtain ⟨m, ns, ps, rfl, dm, hln, q⟩ := h
  refine ⟨_, ((pss_cons (ps_set (i := 1) sc.nd rfl (by first | exact Or.inl rfl | exact Or.inr rfl) (pe_lst (pa_cons (pe_lst pa_nil) pa_nil)))
    (pss_cons (ps_for PassesOwn.never rfl (pi_listK K rfl (pe_fldK K rfl (pv 0) rfl)) (pg_name (i := 2) sc.nd rfl (by first | exact Or.inl rfl | exact Or.inr rfl))
      (pss_one (ps_expr (pe_bmK K rfl PySem.F.plainAttrs_list PySem.F.slot_list_extend PySem.F.type_list_extend mt_extend (pv 1) (pa_cons (pe_lc (own := [("lot", 3)]) rfl sc.nd (pi_listK K rfl (pv 1)) (blkOk_by (own := [("lot", 3)]) (N := ["debate", "found", "statement", "lot"]) (sc := defScope s_held_lots) (by decide +kernel)) (fun _ _ _ _ _ => (pg_name (i := 3) sc.nd rfl (by first | exact Or.inl rfl | exact Or.inr rfl))) (fun _ _ _ _ _ => (pts_one (pt_val (pe_has d_calm_with (hr.mono (by decide)) pass0 (by exact (pa_cons (pv 0) (pa_cons (pv 3) (pa_cons (pv 2) pa_nil)))))))) (fun _ _ _ _ _ => (pe_op op_cat (pv 3) (pe_lst (pa_cons (pv 2) pa_nil))))) pa_nil)))))
    (pss_one (ps_ret (pe_callB (cr_srt (α := List (Str)) (by decide) (hu64 hr)) (by rfl) T.b_sorted (by decide +kernel) (pa_cons (pe_lc (own := [("lot", 3)]) rfl sc.nd (pi_listK K rfl (pv 1)) (blkOk_by (own := [("lot", 3)]) (N := ["debate", "found", "statement", "lot"]) (sc := defScope s_held_lots) (by decide +kernel)) (fun _ _ _ _ _ => (pg_name (i := 3) sc.nd rfl (by first | exact Or.inl rfl | exact Or.inr rfl))) (fun _ _ _ _ _ => (pts_one (pt_cmp (pc_isN (pe_has d_unanswered_in (hr.mono (by decide)) pass0 (by exact (pa_cons (pv 0) (pa_cons (pv 3) pa_nil))))) rfl))) (fun _ _ _ _ _ => (pv 3))) pa_nil))))))), ?_⟩
  have nok := dm.nms.ok
  have pw : ∀ {i : Nat}, i ≤ 12 → 2 ^ i ≤ 4096 := fun h => Nat.le_trans (Nat.pow_le_pow_right (by decide) h) (by decide)
  refine ⟨(by show 0 ≤ _; exact Nat.zero_le _), fun p0 hp0 => ⟨(by show 1 ≤ sizeLine; decide), fun p hp => ?_⟩⟩
  have e0 : Ex H (upd (upd H p0 (.lst [])) p (.lst [.ref p0])) := (Ex.new hp0).trans (Ex.new hp)
  have hpH : H p = none := fresh_back (Ex.new hp0) hp
  have p0p : p0 ≠ p := fun q => by rw [← q, upd_same] at hp; cases hp
  have w0 : Each (del (upd (upd H p0 (.lst [])) p (.lst [.ref p0])) p) [.ref p0] [([] : List Str)] := by
    rw [del_upd]
    exact .cons (at_list (by rw [del_ne p0p]; exact upd_same) .nil) .nil
  have hp1 : (upd (upd H p0 (.lst [])) p (.lst [.ref p0])) p = some (.lst [.ref p0]) := upd_same
  obtain ⟨dx, l1, l2, d1, d2, a1, a2, ws, hm, h1, h2, hW, h3, h4, h5, h6⟩ := (dm.mono e0).ex
  refine ⟨_, rfl, m, C, dx, _, .ref l1, rfl, hm, D.cl, D.nS, look_S _ _ _ _, l1, rfl, ⟨_, SqL.of h1⟩, ?_⟩
  have hl1H : H l1 = some (.lst (ns.map V.str)) := by
    obtain ⟨dx', l1', l2', d1', d2', a1', a2', ws', hm', h1', -⟩ := dm.ex
    have := e0 _ _ hm'
    rw [hm] at this
    cases this
    exact h1'
  refine forG ns.length (fun i σ H' => (∃ u u', σ = [some (.ref m), some (.ref p), u, u']) ∧ Ex H H' ∧ ∃ vs, H' p = some (.lst vs) ∧ Each (del H' p) vs (growF (fun l x => calmB ps l x) (ns.take i))) ⟨⟨_, _, rfl⟩, e0, _, hp1, w0⟩ (fun i σ H' hi ⟨_, e, _⟩ => ⟨_, V.str ns[i], SqL.of (e _ _ hl1H), by rw [List.getElem?_map, List.getElem?_eq_getElem hi]; rfl⟩) (fun σ H' ⟨_, e, _⟩ => ⟨_, SqL.of (e _ _ hl1H), by rw [List.length_map]; exact Nat.le_refl _⟩) ?_ ?_
  · rintro i σ H' x H2 hi ⟨⟨u, u', rfl⟩, e, vs, hv, he⟩ ⟨rfl, hx⟩
    obtain ⟨x, hx', rfl⟩ := map_get (hx _ (SqL.of (e _ _ hl1H)))
    have hxn := List.mem_of_getElem? hx'
    have sub := growF_sub (fun l x => calmB ps l x) (ns.take i)
    have lots12 : (growF (fun l x => calmB ps l x) (ns.take i)).length ≤ 4096 := Nat.le_trans (growF_len _ _) (pw (by rw [List.length_take]; omega))
    refine ⟨_, rfl, Or.inl ⟨rfl, _, SqL.of hv⟩, _, rfl, p, rfl, ⟨_, SqL.of hv⟩, fun Dd hD => ?_⟩
    refine lcL (R := fun _ v l => At (del H2 p) v l) (S := Off p (At : Rel (List Str))) (f := fun l => if calmB ps l x = true then some (l ++ [x]) else none) ⟨fun _ _ _ _ _ h => h⟩ (at_stays.off p) (fun _ e => SqL.of (e _ _ hv)) he hD (by omega) (fun v lot H3 e3 hv3 hlot Kn Ky kn ky => ?_) (fun H3 md => ?_)
    · obtain ⟨l, lvs, rfl, hl, hle⟩ := id hv3
      have lotsub := sub lot hlot
      have lin : ∀ y ∈ lot, y ∈ ns := fun y hy => List.mem_of_mem_take (lotsub.subset hy)
      have llen : lot.length ≤ 1000 := by have := lotsub.length_le; rw [List.length_take] at this; omega
      have hl3 : H3 l = some (.lst (lot.map V.str)) := by rw [← each_strs hle]; exact e3 _ _ (del_sub _ _ hl)
      refine ⟨rfl, ?_⟩
      refine ⟨_, rfl, _, rfl, _, rfl, m, l, ns, ps, lot, x, rfl, (dm.mono e).mono e3, hl3, lin, llen, hxn, fun H4 e4 => ⟨_, rfl, ?_⟩⟩
      cases hb : calmB ps lot x with
      | true =>
        obtain ⟨vs', hl', hz', hh⟩ := catTurn (H1 := H2) (H2 := H4) (v := .str x) (x := x) (e3.trans e4) ⟨_, hv⟩ hv3 (at_str (nok x hxn)) (by omega) (Ky := Ky) (fun y z H' e5 hq _ hS => ky y z H' (e4.trans e5) (by rw [hb]; exact hq) fun G eG gG => hS G eG fun b o hb ho => gG b o (fresh_back e4 hb) ho)
        exact iteT ⟨_, rfl, _, rfl, (by show 1 ≤ sizeLine; decide), fun q1 hq1 => ⟨l, q1, vs', [.str x], rfl, rfl, (Ex.new hq1) _ _ hl', upd_same, hz', fun p2 hp2 => hh q1 hq1 p2 hp2⟩⟩
      | false => exact iteF (kn _ e4 (by rw [hb]; rfl))
    · have fl : List.filterMap (fun l => if calmB ps l x = true then some (l ++ [x]) else none) (growF (fun l x => calmB ps l x) (ns.take i)) = ((growF (fun l x => calmB ps l x) (ns.take i)).filter fun l => calmB ps l x).map (· ++ [x]) := fm_ifm _ _ _
      rw [fl] at md
      obtain ⟨ws', hD', hp', hz', eX, hpp, eE⟩ := extDone hpH e hv he md (by rw [List.length_map]; have := List.length_filter_le (fun l => calmB ps l x) (growF (fun l x => calmB ps l x) (ns.take i)); omega)
      refine ⟨p, Dd, vs, ws', rfl, rfl, hp', hD', hz', ⟨_, _, rfl⟩, eX, _, hpp, ?_⟩
      rw [take_more hx', growF_snoc]
      exact eE
  · rintro σ H' ⟨⟨u, u', rfl⟩, e, vs, hv, he⟩
    rw [List.take_length] at he
    have sub := growF_sub (fun l x => calmB ps l x) ns
    have lots12 : (calmF ns ps).length ≤ 4096 := Nat.le_trans (growF_len _ _) (pw hln)
    refine ⟨_, rfl, p, rfl, ⟨_, SqL.of hv⟩, fun Dd hD => ?_⟩
    refine lcL (R := fun _ v l => At (del H' p) v l) (S := (At : Rel (List Str))) (xs := calmF ns ps) (f := fun l => if heldB ps l = true then some l else none) ⟨fun _ _ _ _ _ h => h⟩ at_stays (fun _ e => SqL.of (e _ _ hv)) he hD (by omega) (fun v lot H3 e3 hv3 hlot Kn Ky kn ky => ?_) (fun H3 md => ?_)
    · obtain ⟨l, lvs, rfl, hl, hle⟩ := id hv3
      have lotsub := sub lot hlot
      have llen : lot.length ≤ 1000 := by have := lotsub.length_le; omega
      have hl3 : H3 l = some (.lst (lot.map V.str)) := by rw [← each_strs hle]; exact e3 _ _ (del_sub _ _ hl)
      refine ⟨rfl, ?_⟩
      refine ⟨_, rfl, _, rfl, m, l, ns, ps, lot, rfl, (dm.mono e).mono e3, hl3, fun y hy => lotsub.subset hy, llen, fun v4 H4 e4 hv4 => ?_⟩
      rcases hv4 with ⟨hb, rfl⟩ | ⟨hb, pp, rfl⟩
      · exact ⟨_, rfl, iteD rfl ⟨_, rfl, ky _ lot _ e4 (by simp [hb]) fun G eG _ => Enc.mono (del_sub.trans eG) hv3⟩⟩
      · exact ⟨_, rfl, iteDn (fun h => by cases h) (kn _ e4 (by simp [hb]))⟩
    · rw [fm_if] at md
      obtain ⟨hn, ex, ws', hD', hw⟩ := md
      refine ⟨_, _, rfl, at_list (xs := (calmF ns ps).filter fun l => heldB ps l) hD' (Each.mono del_sub hw), fun pp ws2 hpp hw2 => q pp _ (fresh_back (e.trans ex) hpp) ((e.trans ex).trans (Ex.new hpp)) (at_list upd_same (hw2.mono (Ex.new hpp)))⟩
end
end K73
set_option maxRecDepth 100000
set_option maxHeartbeats 4000000
namespace K73
open Enc (At enc)
open PySem L2 Evl
theorem pe_never {X : Cx} {e : Expr} : PE X e (fun _ _ _ => False) := ⟨fun _ _ _ _ _ _ h => h.elim⟩
section
variable {P : Program} {w : World} {K : PySem.W.Frag} {mg : Str → Option Value} {base : Heap} {C C_NoStatement : Addr}
def heldW : Str := "held"
def noneW : Str := "none"
abbrev s_checked_way : Stmt := top 25
theorem sc_checked_way : FnScope ["way"] ["way"] (defScope s_checked_way) := ⟨rfl, rfl, rfl, by decide +kernel, rfl, by decide +kernel, by decide +kernel⟩
def sp_checked_way : Sp := fun vs H Q _ => vs = [.str heldW] ∧ Q (.str heldW) H
theorem has_checked_way (T : Txt K mg) (d : Def K mg "checked_way" s_checked_way)   :
    Has P w K mg base CX0 "checked_way" ["way"] 3 sp_checked_way := by
  obtain ⟨f, fd, F, m⟩ := d
  have sc := sc_checked_way
  refine ⟨f, fd, F.ok (k := 2) sc (fun vs H Q E h => (by first | (obtain ⟨h, _⟩ := h; rw [h]; rfl) | (obtain ⟨_, h, _⟩ := h; rw [h]; rfl) | (obtain ⟨_, _, h, _⟩ := h; rw [h]; rfl) | (obtain ⟨_, _, _, h, _⟩ := h; rw [h]; rfl) | (obtain ⟨_, _, _, _, h, _⟩ := h; rw [h]; rfl) | (obtain ⟨_, _, _, _, _, h, _⟩ := h; rw [h]; rfl) | (obtain ⟨_, _, _, _, _, _, h, _⟩ := h; rw [h]; rfl) | (obtain ⟨_, _, _, _, _, _, _, h, _⟩ := h; rw [h]; rfl) | (obtain ⟨_, _, _, _, _, _, _, _, h, _⟩ := h; rw [h]; rfl) | (obtain ⟨_, _, _, _, _, _, _, _, _, h, _⟩ := h; rw [h]; rfl) | (obtain ⟨_, _, _, _, _, _, _, _, _, _, h, _⟩ := h; rw [h]; rfl))) (fun cdv A outer s H vs Q E hr h => ?_), m, F.kp, F.binds fun _ _ _ _ _ _ us hl => match us, hl with | [_], _ => rfl⟩
  obtain ⟨rfl, q⟩ := h
  refine ⟨_, ((pss_cons (ps_if (PW.pt (pw_or (pt_not (pt_val (pe_callB call_is (by rfl) T.b_isinstance (by decide +kernel) (pa_cons (pv 0) (pa_cons (pe_bltn (v := .ty "str") (by rfl) T.b_str (by decide +kernel) rfl) pa_nil))))) (pw_or1 (pt_cmpR (op_notIn_seqK K rfl) (pv 0) (pe_glob (v := .ref T.wy) rfl T.g_WAYS rfl) (by rfl)))))
      pss_never
      pss_nil)
    (pss_one (ps_ret (pv 0))))), ?_⟩
  refine ⟨_, rfl, _, .str, .str, rfl, by decide, .str _, _, rfl, iteF ⟨_, rfl, T.wy, _, rfl, Or.inr (Or.inr T.wyAt), rfl, (by decide +kernel), _, rfl, ?_⟩⟩
  rw [show inV (.str heldW) (([("calm" : Str), ("held" : Str), ("whole" : Str), ("least" : Str), ("greatest" : Str), ("settled" : Str)] : List Str).map V.str) = true from by decide +kernel]
  exact iteF ⟨_, rfl, q⟩
abbrev s_lots_in : Stmt := top 36
theorem sc_lots_in : FnScope ["debate", "way", "found", "lot"] ["debate", "way"] (defScope s_lots_in) := ⟨rfl, rfl, rfl, by decide +kernel, rfl, by decide +kernel, by decide +kernel⟩
def sp_lots_in (C : Addr) : Sp := fun vs H Q _ => ∃ (m : Addr) (ns : List Str) (ps : List Pr), vs = [.ref m, .str heldW] ∧ Deb C H m ns ps ∧ ns.length ≤ 12 ∧ ∀ p H', H p = none → Ex H H' → At H' (.ref p) (heldF ns ps) → Q (.ref p) H'
theorem has_lots_in (T : Txt K mg) (d : Def K mg "lots_in" s_lots_in) (d_held_lots : Has P w K mg base CX0 "held_lots" ["debate"] 3 (sp_held_lots C))  :
    Has P w K mg base CX0 "lots_in" ["debate", "way"] 4 (sp_lots_in C) := by
  obtain ⟨f, fd, F, m⟩ := d
  have sc := sc_lots_in
  refine ⟨f, fd, F.ok (k := 3) sc (fun vs H Q E h => (by first | (obtain ⟨h, _⟩ := h; rw [h]; rfl) | (obtain ⟨_, h, _⟩ := h; rw [h]; rfl) | (obtain ⟨_, _, h, _⟩ := h; rw [h]; rfl) | (obtain ⟨_, _, _, h, _⟩ := h; rw [h]; rfl) | (obtain ⟨_, _, _, _, h, _⟩ := h; rw [h]; rfl) | (obtain ⟨_, _, _, _, _, h, _⟩ := h; rw [h]; rfl) | (obtain ⟨_, _, _, _, _, _, h, _⟩ := h; rw [h]; rfl) | (obtain ⟨_, _, _, _, _, _, _, h, _⟩ := h; rw [h]; rfl) | (obtain ⟨_, _, _, _, _, _, _, _, h, _⟩ := h; rw [h]; rfl) | (obtain ⟨_, _, _, _, _, _, _, _, _, h, _⟩ := h; rw [h]; rfl) | (obtain ⟨_, _, _, _, _, _, _, _, _, _, h, _⟩ := h; rw [h]; rfl))) (fun cdv A outer s H vs Q E hr h => ?_), m, F.kp, F.binds fun _ _ _ _ _ _ us hl => match us, hl with | [_, _], _ => rfl⟩
  obtain ⟨m, ns, ps, rfl, dm, hln, q⟩ := h
  refine ⟨_, ((pss_cons (ps_if (pt_cmpR op_eq (pv 1) pe_str (nomark _)) pss_never pss_nil)
    (pss_cons (ps_if (pt_cmpR (op_in_seqK K rfl) (pv 1) (pe_tup (pa_cons pe_str (pa_cons pe_str pa_nil))) (by rfl)) pss_never pss_nil)
    (pss_cons (ps_set (i := 2) sc.nd rfl (by first | exact Or.inl rfl | exact Or.inr rfl) (pe_has d_held_lots (hr.mono (by decide)) pass0 (by exact (pa_cons (pv 0) pa_nil))))
    (pss_cons (ps_if (pt_cmpR op_eq (pv 1) pe_str (nomark _)) pss_never pss_nil)
    (pss_one (ps_ret (pe_ifExp (pt_cmpR op_eq (pv 1) pe_str (nomark _)) pe_never (pv 2))))))))), ?_⟩
  have n1 : ¬ V.str heldW = V.str "least" := fun h => absurd (V.str.inj h) (by decide +kernel)
  have n2 : inV (.str heldW) [.str "calm", .str "settled"] = false := by decide +kernel
  have n3 : ¬ V.str heldW = V.str "whole" := fun h => absurd (V.str.inj h) (by decide +kernel)
  have n4 : ¬ V.str heldW = V.str "greatest" := fun h => absurd (V.str.inj h) (by decide +kernel)
  refine ⟨_, rfl, rfl, _, rfl, iteDn n1 ?_⟩
  refine ⟨_, rfl, (by show 2 ≤ sizeLine; decide), fun p hp => ⟨p, _, rfl, Or.inr (SqT.of upd_same), rfl, rfl, _, rfl, ?_⟩⟩
  show if inV (.str heldW) [.str "calm", .str "settled"] = true then _ else _
  rw [n2]
  have e1 : Ex H (upd H p (.tup [.str "calm", .str "settled"])) := Ex.new hp
  refine iteF ⟨_, rfl, m, ns, ps, rfl, dm.mono e1, hln, fun p2 H2 hp2 e2 h2 => ⟨_, rfl, rfl, _, rfl, iteDn n3 ?_⟩⟩
  exact ⟨_, rfl, rfl, _, rfl, iteDn n4 ⟨_, rfl, q p2 _ (fresh_back e1 hp2) (e1.trans e2) h2⟩⟩
abbrev s_stands : Stmt := top 53
theorem sc_stands : FnScope ["debate", "way", "statement", "how", "kept", "one", "met", "lot"] ["debate", "way", "statement", "how"] (defScope s_stands) := ⟨rfl, rfl, rfl, by decide +kernel, rfl, by decide +kernel, by decide +kernel⟩
def sp_stands (C : Addr) : Sp := fun vs H Q _ => ∃ (m : Addr) (ns : List Str) (ps : List Pr) (x : Str), vs = [.ref m, .str heldW, .str x, .str noneW] ∧ Deb C H m ns ps ∧ ns.length ≤ 12 ∧ x ∈ ns ∧ ∀ H', Ex H H' → Q (.bl (!(heldF ns ps).any fun l => decide (x ∈ l))) H'
theorem has_stands (T : Txt K mg) (d : Def K mg "stands" s_stands) (d_checked_way : Has P w K mg base CX0 "checked_way" ["way"] 3 sp_checked_way) (d_checked_statement : Has P w K mg base (L2.CX P w) "checked_statement" ["debate", "statement"] 3 (sp_checked_statement C C_NoStatement)) (d_lots_in : Has P w K mg base CX0 "lots_in" ["debate", "way"] 4 (sp_lots_in C))  :
    Has P w K mg base CX0 "stands" ["debate", "way", "statement", "how"] 5 (sp_stands C) := by
  obtain ⟨f, fd, F, m⟩ := d
  have sc := sc_stands
  refine ⟨f, fd, F.ok (k := 4) sc (fun vs H Q E h => (by first | (obtain ⟨h, _⟩ := h; rw [h]; rfl) | (obtain ⟨_, h, _⟩ := h; rw [h]; rfl) | (obtain ⟨_, _, h, _⟩ := h; rw [h]; rfl) | (obtain ⟨_, _, _, h, _⟩ := h; rw [h]; rfl) | (obtain ⟨_, _, _, _, h, _⟩ := h; rw [h]; rfl) | (obtain ⟨_, _, _, _, _, h, _⟩ := h; rw [h]; rfl) | (obtain ⟨_, _, _, _, _, _, h, _⟩ := h; rw [h]; rfl) | (obtain ⟨_, _, _, _, _, _, _, h, _⟩ := h; rw [h]; rfl) | (obtain ⟨_, _, _, _, _, _, _, _, h, _⟩ := h; rw [h]; rfl) | (obtain ⟨_, _, _, _, _, _, _, _, _, h, _⟩ := h; rw [h]; rfl) | (obtain ⟨_, _, _, _, _, _, _, _, _, _, h, _⟩ := h; rw [h]; rfl))) (fun cdv A outer s H vs Q E hr h => ?_), m, F.kp, F.binds fun _ _ _ _ _ _ us hl => match us, hl with | [_, _, _, _], _ => rfl⟩
  obtain ⟨m, ns, ps, x, rfl, dm, hln, hx, q⟩ := h
  refine ⟨_, ((pss_cons (ps_asg (pe_tup (pa_cons (pe_has d_checked_way (hr.mono (by decide)) pass0 (by exact (pa_cons (pv 1) pa_nil))) (pa_cons (pe_has d_checked_statement (hr.mono (by decide)) passL (by exact (pa_cons (pv 0) (pa_cons (pv 2) pa_nil)))) pa_nil))) (pg_tupK (n := 2) K rfl rfl (pgs_cons (pg_name (i := 4) sc.nd rfl (by first | exact Or.inl rfl | exact Or.inr rfl)) (pgs_cons (pg_name (i := 5) sc.nd rfl (by first | exact Or.inl rfl | exact Or.inr rfl)) pgs_nil))))
    (pss_cons (ps_if (PW.pt (pw_or (pt_not (pt_val (pe_callB call_is (by rfl) T.b_isinstance (by decide +kernel) (pa_cons (pv 3) (pa_cons (pe_bltn (v := .ty "str") (by rfl) T.b_str (by decide +kernel) rfl) pa_nil))))) (pw_or1 (pt_cmpR (op_notIn_seqK K rfl) (pv 3) (pe_tup (pa_cons pe_str (pa_cons pe_str (pa_cons pe_str pa_nil)))) (by rfl)))))
      pss_never
      pss_nil)
    (pss_cons (ps_setLc (i := 6) (own := [("lot", 7)]) rfl sc.nd rfl rfl (sw_true rfl rfl rfl (by decide +kernel)) (pi_listK K rfl (pe_has d_lots_in (hr.mono (by decide)) pass0 (by exact (pa_cons (pv 0) (pa_cons (pv 4) pa_nil))))) (blkOk_by (own := [("lot", 7)]) (N := ["debate", "way", "statement", "how", "kept", "one", "met", "lot"]) (sc := defScope s_stands) (by decide +kernel)) (fun _ _ _ _ _ => (pg_name (i := 7) sc.nd rfl (by first | exact Or.inl rfl | exact Or.inr rfl))) (fun _ _ _ _ _ => pts_nil) (fun _ _ _ _ _ => (pe_cmpR (op_inA (α := Str) (by decide) (hu65 hr)) (pv 5) (pv 7) (by rfl))))
    (pss_one (ps_ret (pe_ifExp (pt_cmpR op_eq (pv 3) pe_str (nomark _)) (pe_callB (cr_anyK K rfl rfl) (by rfl) T.b_any (by decide +kernel) (pa_cons (pv 6) pa_nil)) (pe_ifExp (pt_cmpR op_eq (pv 3) pe_str (nomark _)) (pe_callB (cr_allK K rfl rfl) (by rfl) T.b_all (by decide +kernel) (pa_cons (pv 6) pa_nil)) (pe_not (pe_callB (cr_anyK K rfl rfl) (by rfl) T.b_any (by decide +kernel) (pa_cons (pv 6) pa_nil))))))))))), ?_⟩
  have kx := dm.nms.ok x hx
  have m1 : ¬ V.str noneW = V.str "some" := fun h => absurd (V.str.inj h) (by decide +kernel)
  have m2 : ¬ V.str noneW = V.str "all" := fun h => absurd (V.str.inj h) (by decide +kernel)
  have m3 : inV (.str noneW) [.str "some", .str "all", .str "none"] = true := by decide +kernel
  refine ⟨_, rfl, rfl, _, rfl, _, rfl, m, ns, ps, .str x, rfl, dm, Or.inl ⟨x, rfl, hx, ?_⟩⟩
  refine ⟨(by show 2 ≤ sizeLine; decide), fun p hp => ⟨p, _, rfl, SqT.of upd_same, rfl, _, _, rfl, _, _, rfl, ⟨rfl, ?_⟩⟩⟩
  have e1 : Ex H (upd H p (.tup [.str heldW, .str x])) := Ex.new hp
  refine ⟨_, rfl, _, .str, .str, rfl, by decide, .str _, _, rfl, iteF ⟨_, rfl, (by show 3 ≤ sizeLine; decide), fun p1 hp1 => ⟨p1, _, rfl, Or.inr (SqT.of upd_same), rfl, rfl, _, rfl, ?_⟩⟩⟩
  show if (!inV (.str noneW) [.str "some", .str "all", .str "none"]) = true then _ else _
  rw [m3]
  have e2 := e1.trans (Ex.new (o := .tup [.str "some", .str "all", .str "none"]) hp1)
  refine iteF ⟨_, rfl, _, rfl, m, ns, ps, rfl, dm.mono e2, hln, fun p2 H2 hp2 e3 h2 => ?_⟩
  obtain ⟨vs, h2', he⟩ := Each.ofAt h2
  have sz : (heldF ns ps).length ≤ 4096 := by
    unfold heldF
    rw [srt_length]
    exact Nat.le_trans (List.length_filter_le _ _) (Nat.le_trans (growF_len _ _) (Nat.le_trans (Nat.pow_le_pow_right (by decide) hln) (by decide)))
  refine ⟨p2, rfl, ⟨_, SqL.of h2'⟩, fun Dd hD => lcL (R := (At : Rel (List Str))) (S := BlR) (f := fun l => some (decide (x ∈ l))) at_stays bl_stays (fun _ e => SqL.of (e _ _ h2')) he hD (by omega) (fun v l H3 e4 hv hl Kn Ky kn ky => ?_) (fun H3 md => ?_)⟩
  · exact ⟨rfl, _, rfl, _, rfl, x, l, at_str kx, hv, ky _ _ _ (Ex.refl _) rfl fun _ _ _ => rfl⟩
  · obtain ⟨_, ex, ws2, hD', hp'⟩ := md
    rw [bls_eq hp'] at hD'
    refine ⟨_, rfl, rfl, _, rfl, iteDn m1 ⟨_, rfl, rfl, _, rfl, iteDn m2 ⟨_, rfl, Dd, _, rfl, SqL.of hD', _, rfl, ?_⟩⟩⟩
    have eb : (List.filterMap (fun l => some (decide (x ∈ l))) (heldF ns ps)).any id = (heldF ns ps).any fun l => decide (x ∈ l) := by
      simp [List.any_map, Function.comp_def]
    rw [eb]
    exact q _ (e2.trans (e3.trans ex))
end
end K73
set_option maxRecDepth 100000
set_option maxHeartbeats 4000000
namespace K73
open Enc (At enc)
open PySem L2 Evl
theorem fm_map {α β : Type} (g : α → β) : ∀ l : List α, (l.filterMap fun x => some (g x)) = l.map g
  | [] => rfl
  | a :: l => by
    rw [List.filterMap_cons, fm_map g l]
    rfl
section
variable {P : Program} {w : World} {K : PySem.W.Frag} {mg : Str → Option Value} {base : Heap} {C C_NoStatement C_BadWeights : Addr} {α : Type} [Enc α]
abbrev s_all_parts : Stmt := top 38
theorem sc_all_parts : FnScope ["things", "found", "thing", "part"] ["things"] (defScope s_all_parts) := ⟨rfl, rfl, rfl, by decide +kernel, rfl, by decide +kernel, by decide +kernel⟩
def sp_all_parts (α : Type) [Enc α] : Sp := fun vs H Q _ => ∃ (a : Addr) (xs : List α), vs = [.ref a] ∧ At H (.ref a) xs ∧ xs.length ≤ 12 ∧ ∀ p vs H', H p = none → Ex H H' → H' p = some (.lst vs) → Each H' vs (allP xs) → (∀ v ∈ vs, ∃ l, v = V.ref l ∧ H l = none) → Q (.ref p) H'
theorem parts_go {a : Addr} {xs : List α} {H : Hp} {Q : VK} {D : L2.St → Hp → Prop} (hat : At H (.ref a) xs) (hln : xs.length ≤ 12) (q : ∀ p vs H', H p = none → Ex H H' → H' p = some (.lst vs) → Each H' vs (allP xs) → (∀ v ∈ vs, ∃ l, v = V.ref l ∧ H l = none) → Q (.ref p) H') :
    tSeq (tAsg (tLst (tCons (tLst tNil) tNil)) (gName 1)) (tSeq (tFor (iList K (tVar 0)) (gName 2) (tDrop (tBM K "list" rExtend (tVar 1) (tCons (tLc (iList K (tVar 1)) (gName 3) tYes (tOp rCat (tVar 3) (tLst (tCons (tVar 2) tNil))) [3]) tNil)))) (tRet (tVar 1)))
      { nx := D, rt := Q } [some (.ref a), none, none, none] H := by
  have pw : ∀ {i : Nat}, i ≤ 12 → 2 ^ i ≤ 4096 := fun h => Nat.le_trans (Nat.pow_le_pow_right (by decide) h) (by decide)
  refine ⟨(by show 0 ≤ _; exact Nat.zero_le _), fun p0 hp0 => ⟨(by show 1 ≤ sizeLine; decide), fun p hp => ?_⟩⟩
  have e0 : Ex H (upd (upd H p0 (.lst [])) p (.lst [.ref p0])) := (Ex.new hp0).trans (Ex.new hp)
  have hpH : H p = none := fresh_back (Ex.new hp0) hp
  have p0p : p0 ≠ p := fun q => by rw [← q, upd_same] at hp; cases hp
  have w0 : Each (del (upd (upd H p0 (.lst [])) p (.lst [.ref p0])) p) [.ref p0] [([] : List α)] := by
    rw [del_upd]
    exact .cons (at_list (by rw [del_ne p0p]; exact upd_same) .nil) .nil
  have hp1 : (upd (upd H p0 (.lst [])) p (.lst [.ref p0])) p = some (.lst [.ref p0]) := upd_same
  obtain ⟨xvs, ha, hxe⟩ := Each.ofAt hat
  have lenE := hxe.length
  refine ⟨_, rfl, a, rfl, ⟨_, SqL.of (e0 _ _ ha)⟩, ?_⟩
  refine forG xs.length (fun i σ H' => (∃ u u', σ = [some (.ref a), some (.ref p), u, u']) ∧ Ex H H' ∧ ∃ vs, H' p = some (.lst vs) ∧ Each (del H' p) vs (allP (xs.take i)) ∧ ∀ v ∈ vs, ∃ l, v = V.ref l ∧ H l = none) ⟨⟨_, _, rfl⟩, e0, _, hp1, w0, fun v hv => ⟨p0, List.mem_singleton.mp hv, hp0⟩⟩ (fun i σ H' hi ⟨_, e, _⟩ => ⟨_, xvs[i], SqL.of (e _ _ ha), List.getElem?_eq_getElem (by omega)⟩) (fun σ H' ⟨_, e, _⟩ => ⟨_, SqL.of (e _ _ ha), by omega⟩) ?_ ?_
  · rintro i σ H' x H2 hi ⟨⟨u, u', rfl⟩, e, vs, hv, he, hfr⟩ ⟨rfl, hx⟩
    obtain ⟨z, hz, hxz⟩ := Paired.get hxe (hx _ (SqL.of (e _ _ ha)))
    have hxz2 : At (del H2 p) x z := Enc.mono (ex_del e hpH) hxz
    have lots12 : (allP (xs.take i)).length ≤ 4096 := Nat.le_trans (allP_len _) (pw (by rw [List.length_take]; omega))
    refine ⟨_, rfl, Or.inl ⟨rfl, _, SqL.of hv⟩, _, rfl, p, rfl, ⟨_, SqL.of hv⟩, fun Dd hD => ?_⟩
    refine lcL (R := fun _ v l => At (del H2 p) v l) (S := fun G v z => Off p (At : Rel (List α)) G v z ∧ ∃ l, v = V.ref l ∧ H l = none) (f := fun l => some (l ++ [z])) ⟨fun _ _ _ _ _ h => h⟩ ⟨fun _ _ _ _ e h => ⟨(at_stays.off p).go _ _ _ _ e h.1, h.2⟩⟩ (fun _ e => SqL.of (e _ _ hv)) he hD (by omega) (fun v lot H3 e3 hv3 hlot Kn Ky kn ky => ?_) (fun H3 md => ?_)
    · obtain ⟨l, lvs, rfl, hl, hle⟩ := id hv3
      have llen : lot.length ≤ 1000 := by have := (allP_sub hlot).length_le; rw [List.length_take] at this; omega
      obtain ⟨vs', hl', hz', hh⟩ := catTurn (H1 := H2) (H2 := H3) (v := x) (x := z) e3 ⟨_, hv⟩ hv3 hxz2 (by omega) (Ky := Ky) (fun y z' H' e5 hq hl hS => ky y z' H' e5 hq fun G eG gG => ⟨hS G eG gG, let ⟨l2, h1, h2⟩ := hl; ⟨l2, h1, fresh_back (e.trans e3) h2⟩⟩)
      exact ⟨rfl, _, rfl, _, rfl, (by show 1 ≤ sizeLine; decide), fun q1 hq1 => ⟨l, q1, vs', [x], rfl, rfl, (Ex.new hq1) _ _ hl', upd_same, hz', fun p2 hp2 => hh q1 hq1 p2 hp2⟩⟩
    · have fl : List.filterMap (fun l => some (l ++ [z])) (allP (xs.take i)) = (allP (xs.take i)).map (· ++ [z]) := fm_map _ _
      rw [fl] at md
      have mdf := md.it
      obtain ⟨ws', hD', hp', hz', eX, hpp, eE⟩ := extDone hpH e hv he (md.imp fun _ _ _ h => h.1) (by rw [List.length_map]; omega)
      refine ⟨p, Dd, vs, ws', rfl, rfl, hp', hD', hz', ⟨_, _, rfl⟩, eX, _, hpp, ?_, fun v hv => ?_⟩
      rotate_left
      · rcases List.mem_append.mp hv with g | g
        · exact hfr v g
        · obtain ⟨ws3, h3, h4⟩ := mdf
          rw [hD'] at h3
          cases h3
          exact paired_mem (fun _ _ h => h.2) h4 v g
      rw [take_more hz, allP_snoc]
      exact eE
  · rintro σ H' ⟨⟨u, u', rfl⟩, e, vs, hv, he, hfr⟩
    rw [List.take_length] at he
    exact ⟨_, rfl, q p vs _ hpH e hv (he.mono del_sub) hfr⟩
theorem has_all_parts (T : Txt K mg) (d : Def K mg "all_parts" s_all_parts)   :
    Has P w K mg base CX0 "all_parts" ["things"] 1 (sp_all_parts α) := by
  obtain ⟨f, fd, F, m⟩ := d
  have sc := sc_all_parts
  refine ⟨f, fd, F.ok (k := 0) sc (fun vs H Q E h => (by first | (obtain ⟨h, _⟩ := h; rw [h]; rfl) | (obtain ⟨_, h, _⟩ := h; rw [h]; rfl) | (obtain ⟨_, _, h, _⟩ := h; rw [h]; rfl) | (obtain ⟨_, _, _, h, _⟩ := h; rw [h]; rfl) | (obtain ⟨_, _, _, _, h, _⟩ := h; rw [h]; rfl) | (obtain ⟨_, _, _, _, _, h, _⟩ := h; rw [h]; rfl) | (obtain ⟨_, _, _, _, _, _, h, _⟩ := h; rw [h]; rfl) | (obtain ⟨_, _, _, _, _, _, _, h, _⟩ := h; rw [h]; rfl) | (obtain ⟨_, _, _, _, _, _, _, _, h, _⟩ := h; rw [h]; rfl) | (obtain ⟨_, _, _, _, _, _, _, _, _, h, _⟩ := h; rw [h]; rfl) | (obtain ⟨_, _, _, _, _, _, _, _, _, _, h, _⟩ := h; rw [h]; rfl))) (fun cdv A outer s H vs Q E hr h => ?_), m, F.kp, F.binds fun _ _ _ _ _ _ us hl => match us, hl with | [_], _ => rfl⟩
  obtain ⟨a, xs, rfl, hat, hln, q⟩ := h
  exact ⟨_, ((pss_cons (ps_set (i := 1) sc.nd rfl (by first | exact Or.inl rfl | exact Or.inr rfl) (pe_lst (pa_cons (pe_lst pa_nil) pa_nil)))
    (pss_cons (ps_for PassesOwn.never rfl (pi_listK K rfl (pv 0)) (pg_name (i := 2) sc.nd rfl (by first | exact Or.inl rfl | exact Or.inr rfl))
      (pss_one (ps_expr (pe_bmK K rfl PySem.F.plainAttrs_list PySem.F.slot_list_extend PySem.F.type_list_extend mt_extend (pv 1) (pa_cons (pe_lc (own := [("part", 3)]) rfl sc.nd (pi_listK K rfl (pv 1)) (blkOk_by (own := [("part", 3)]) (N := ["things", "found", "thing", "part"]) (sc := defScope s_all_parts) (by decide +kernel)) (fun _ _ _ _ _ => (pg_name (i := 3) sc.nd rfl (by first | exact Or.inl rfl | exact Or.inr rfl))) (fun _ _ _ _ _ => pts_nil) (fun _ _ _ _ _ => (pe_op op_cat (pv 3) (pe_lst (pa_cons (pv 2) pa_nil))))) pa_nil)))))
    (pss_one (ps_ret (pv 1)))))), parts_go hat hln q⟩
abbrev s_law_m_parts : Stmt := top 55
theorem sc_law_m_parts : FnScope ["_law_things", "_law_found", "_law_thing", "_law_part"] ["_law_things"] (defScope s_law_m_parts) := ⟨rfl, rfl, rfl, by decide +kernel, rfl, by decide +kernel, by decide +kernel⟩
theorem has_law_m_parts (T : Txt K mg) (d : Def K mg "_law_m_parts" s_law_m_parts)   :
    Has P w K mg base CX0 "_law_m_parts" ["_law_things"] 1 (sp_all_parts Pr) := by
  obtain ⟨f, fd, F, m⟩ := d
  have sc := sc_law_m_parts
  refine ⟨f, fd, F.ok (k := 0) sc (fun vs H Q E h => (by first | (obtain ⟨h, _⟩ := h; rw [h]; rfl) | (obtain ⟨_, h, _⟩ := h; rw [h]; rfl) | (obtain ⟨_, _, h, _⟩ := h; rw [h]; rfl) | (obtain ⟨_, _, _, h, _⟩ := h; rw [h]; rfl) | (obtain ⟨_, _, _, _, h, _⟩ := h; rw [h]; rfl) | (obtain ⟨_, _, _, _, _, h, _⟩ := h; rw [h]; rfl) | (obtain ⟨_, _, _, _, _, _, h, _⟩ := h; rw [h]; rfl) | (obtain ⟨_, _, _, _, _, _, _, h, _⟩ := h; rw [h]; rfl) | (obtain ⟨_, _, _, _, _, _, _, _, h, _⟩ := h; rw [h]; rfl) | (obtain ⟨_, _, _, _, _, _, _, _, _, h, _⟩ := h; rw [h]; rfl) | (obtain ⟨_, _, _, _, _, _, _, _, _, _, h, _⟩ := h; rw [h]; rfl))) (fun cdv A outer s H vs Q E hr h => ?_), m, F.kp, F.binds fun _ _ _ _ _ _ us hl => match us, hl with | [_], _ => rfl⟩
  obtain ⟨a, xs, rfl, hat, hln, q⟩ := h
  exact ⟨_, ((pss_cons (ps_set (i := 1) sc.nd rfl (by first | exact Or.inl rfl | exact Or.inr rfl) (pe_lst (pa_cons (pe_lst pa_nil) pa_nil)))
    (pss_cons (ps_for PassesOwn.never rfl (pi_listK K rfl (pv 0)) (pg_name (i := 2) sc.nd rfl (by first | exact Or.inl rfl | exact Or.inr rfl))
      (pss_one (ps_expr (pe_bmK K rfl PySem.F.plainAttrs_list PySem.F.slot_list_extend PySem.F.type_list_extend mt_extend (pv 1) (pa_cons (pe_lc (own := [("_law_part", 3)]) rfl sc.nd (pi_listK K rfl (pv 1)) (blkOk_by (own := [("_law_part", 3)]) (N := ["_law_things", "_law_found", "_law_thing", "_law_part"]) (sc := defScope s_law_m_parts) (by decide +kernel)) (fun _ _ _ _ _ => (pg_name (i := 3) sc.nd rfl (by first | exact Or.inl rfl | exact Or.inr rfl))) (fun _ _ _ _ _ => pts_nil) (fun _ _ _ _ _ => (pe_op op_cat (pv 3) (pe_lst (pa_cons (pv 2) pa_nil))))) pa_nil)))))
    (pss_one (ps_ret (pv 1)))))), parts_go hat hln q⟩
end
end K73
set_option maxRecDepth 100000
set_option maxHeartbeats 4000000
namespace K73
open Enc (At enc)
open PySem L2 Evl
section
variable {P : Program} {w : World} {K : PySem.W.Frag} {mg : Str → Option Value} {base : Heap} {C C_NoStatement C_BadWeights : Addr}
theorem pr_ref {H : Hp} {v : V} {p : Pr} (h : At H v p) : ∃ a, v = .ref a ∧ H a = some (.tup [.str p.1, .str p.2]) := by
  obtain ⟨a, x, y, rfl, ha, ⟨rfl, _⟩, ⟨rfl, _⟩⟩ := h
  exact ⟨a, rfl, ha⟩
theorem each_lp {H : Hp} : ∀ {vs : List V} {ps : List Pr}, Each H vs ps → Paired (LpR H) vs ps
  | _, _, .nil => .nil
  | _, _, .cons h t => .cons (let ⟨a, e, ha⟩ := pr_ref h; ⟨a, e, .inr ha⟩) (each_lp t)
/-- where an instance is made: all that stood stands, without the instance too -/
theorem made_ex {H : Hp} {x dx C : Addr} (hx : H x = none) (hd : H dx = none) (hne : dx ≠ x) : Ex H (del (upd (upd H dx (.own x)) x (.ins C dx [])) x) := fun b o q => by
  have h1 : b ≠ x := ne_of_none q hx
  have h2 : b ≠ dx := ne_of_none q hd
  rw [del_ne h1, upd_ne h1, upd_ne h2]
  exact q
abbrev s_without_pairs : Stmt := top 40
theorem sc_without_pairs : FnScope ["debate", "pairs", "pair"] ["debate", "pairs"] (defScope s_without_pairs) := ⟨rfl, rfl, rfl, by decide +kernel, rfl, by decide +kernel, by decide +kernel⟩
def sp_without_pairs (C : Addr) : Sp := fun vs H Q _ => ∃ (m a : Addr) (ns : List Str) (ps qs : List Pr), vs = [.ref m, .ref a] ∧ Deb C H m ns ps ∧ At H (.ref a) qs ∧
  ∀ m' H', H m' = none → Ex H H' → Deb C H' m' (srt ns) (srt (ps.filter fun p => !decide (p ∈ qs))) → Q (.ref m') H'
theorem has_without_pairs (T : Txt K mg) (d : Def K mg "without_pairs" s_without_pairs) (d_Debate : HasMk P w K mg base C 5 (sp_init C)) (D : DTxt K mg C) :
    Has P w K mg base CX0 "without_pairs" ["debate", "pairs"] 7 (sp_without_pairs C) := by
  obtain ⟨f, fd, F, m⟩ := d
  have sc := sc_without_pairs
  refine ⟨f, fd, F.ok (k := 6) sc (fun vs H Q E h => (by first | (obtain ⟨h, _⟩ := h; rw [h]; rfl) | (obtain ⟨_, h, _⟩ := h; rw [h]; rfl) | (obtain ⟨_, _, h, _⟩ := h; rw [h]; rfl) | (obtain ⟨_, _, _, h, _⟩ := h; rw [h]; rfl) | (obtain ⟨_, _, _, _, h, _⟩ := h; rw [h]; rfl) | (obtain ⟨_, _, _, _, _, h, _⟩ := h; rw [h]; rfl) | (obtain ⟨_, _, _, _, _, _, h, _⟩ := h; rw [h]; rfl) | (obtain ⟨_, _, _, _, _, _, _, h, _⟩ := h; rw [h]; rfl) | (obtain ⟨_, _, _, _, _, _, _, _, h, _⟩ := h; rw [h]; rfl) | (obtain ⟨_, _, _, _, _, _, _, _, _, h, _⟩ := h; rw [h]; rfl) | (obtain ⟨_, _, _, _, _, _, _, _, _, _, h, _⟩ := h; rw [h]; rfl))) (fun cdv A outer s H vs Q E hr h => ?_), m, F.kp, F.binds fun _ _ _ _ _ _ us hl => match us, hl with | [_, _], _ => rfl⟩
  obtain ⟨m, a, ns, ps, qs, rfl, dm, hq, q⟩ := h
  refine ⟨_, ((pss_one (ps_ret (pe_hasMk d_Debate (hr.mono (by decide)) pass0 (by exact (pa_cons (pe_fldK K rfl (pv 0) rfl) (pa_cons (pe_lc (own := [("pair", 2)]) rfl sc.nd (pi_listK K rfl (pe_fldK K rfl (pv 0) rfl)) (blkOk_by (own := [("pair", 2)]) (N := ["debate", "pairs", "pair"]) (sc := defScope s_without_pairs) (by decide +kernel)) (fun _ _ _ _ _ => (pg_name (i := 2) sc.nd rfl (by first | exact Or.inl rfl | exact Or.inr rfl))) (fun _ _ _ _ _ => (pts_one (pt_cmpR (op_notInA (α := ((Str) × (Str))) (by decide) (hu65 hr)) (pv 2) (pv 1) (by rfl)))) (fun _ _ _ _ _ => (pv 2))) pa_nil))))))), ?_⟩
  obtain ⟨dx, l1, l2, d1, d2, a1, a2, ws, hm, h1, h2, hW, h3, h4, h5, h6⟩ := dm.ex
  have lp := dm.lp
  refine ⟨_, rfl, m, C, dx, _, .ref l1, rfl, hm, D.cl, D.nS, look_S _ _ _ _, _, rfl, m, C, dx, _, .ref l2, rfl, hm, D.cl, D.nO, look_O _ _ _ _, l2, rfl, ⟨_, SqL.of h2⟩, fun Dd hD => ?_⟩
  refine lcL (R := fun _ v p => At H v p) (S := (At : Rel Pr)) (f := fun p => if (!decide (p ∈ qs)) = true then some p else none) ⟨fun _ _ _ _ _ h => h⟩ at_stays (fun _ e => SqL.of (e _ _ h2)) hW hD (by omega) (fun v p H2 e2 hv hp Kn Ky kn ky => ?_) (fun H2 md => ?_)
  · refine ⟨rfl, _, rfl, _, rfl, p, qs, Enc.mono e2 hv, Enc.mono e2 hq, _, rfl, ?_⟩
    by_cases hb : p ∈ qs
    · exact iteND hb (kn _ (Ex.refl _) (by simp [hb]))
    · exact iteNDn hb ⟨_, rfl, ky _ p _ (Ex.refl _) (by simp [hb]) fun G eG _ => Enc.mono eG hv⟩
  · rw [fm_if] at md
    obtain ⟨hn, ex, ws', hD', hw⟩ := md
    have hw' : Each H2 ws' (ps.filter fun p => !decide (p ∈ qs)) := Each.mono del_sub hw
    intro x dx' hx hdx hne
    have eM := made_ex (C := C) hx hdx hne
    have eI : Ex H2 (upd (upd H2 dx' (.own x)) x (.ins C dx' [])) := eM.trans del_sub
    refine ⟨x, dx', l1, .ref Dd, ns, ps.filter fun p => !decide (p ∈ qs), rfl, upd_same, eI _ _ (ex _ _ h1), dm.nd, dm.nms, dm.ln, ⟨Dd, ws', rfl, Or.inl (eM _ _ hD'), each_lp (hw'.mono eM)⟩, dm.ndp.filter _, fun p hp => dm.mem p (List.mem_filter.mp hp).1, Nat.le_trans (List.length_filter_le _ _) lp, fun H' eH dH => ⟨rfl, q x H' (fresh_back ex hx) (ex.trans (eM.trans eH)) (dH H' (fun _ _ _ h => h) fun _ _ h => h)⟩⟩
abbrev s_overheard_in : Stmt := top 42
theorem sc_overheard_in : FnScope ["debate", "way", "members", "hit", "outside", "pairs", "one", "other", "pair"] ["debate", "way", "members"] (defScope s_overheard_in) := ⟨rfl, rfl, rfl, by decide +kernel, rfl, by decide +kernel, by decide +kernel⟩
/-- the objections that the lot ms must overhear to be held -/
def overH (ps : List Pr) (ms : List Str) : List Pr := (ps.filter fun p => decide (p.2 ∈ ms)).filter fun p => decide (p.1 ∈ ms) || !hitB ps ms p.1
def sp_overheard_in (C : Addr) : Sp := fun vs H Q _ => ∃ (m a : Addr) (ns : List Str) (ps : List Pr) (ms : List Str), vs = [.ref m, .str heldW, .ref a] ∧ Deb C H m ns ps ∧ H a = some (.lst (ms.map V.str)) ∧ (∀ x ∈ ms, x ∈ ns) ∧ ms.length ≤ 1000 ∧
  ∀ p H', H p = none → Ex H H' → At H' (.ref p) (overH ps ms) → Q (.ref p) H'
theorem has_overheard_in (T : Txt K mg) (d : Def K mg "overheard_in" s_overheard_in)  (D : DTxt K mg C) :
    Has P w K mg base CX0 "overheard_in" ["debate", "way", "members"] 1 (sp_overheard_in C) := by
  obtain ⟨f, fd, F, m⟩ := d
  have sc := sc_overheard_in
  refine ⟨f, fd, F.ok (k := 0) sc (fun vs H Q E h => (by first | (obtain ⟨h, _⟩ := h; rw [h]; rfl) | (obtain ⟨_, h, _⟩ := h; rw [h]; rfl) | (obtain ⟨_, _, h, _⟩ := h; rw [h]; rfl) | (obtain ⟨_, _, _, h, _⟩ := h; rw [h]; rfl) | (obtain ⟨_, _, _, _, h, _⟩ := h; rw [h]; rfl) | (obtain ⟨_, _, _, _, _, h, _⟩ := h; rw [h]; rfl) | (obtain ⟨_, _, _, _, _, _, h, _⟩ := h; rw [h]; rfl) | (obtain ⟨_, _, _, _, _, _, _, h, _⟩ := h; rw [h]; rfl) | (obtain ⟨_, _, _, _, _, _, _, _, h, _⟩ := h; rw [h]; rfl) | (obtain ⟨_, _, _, _, _, _, _, _, _, h, _⟩ := h; rw [h]; rfl) | (obtain ⟨_, _, _, _, _, _, _, _, _, _, h, _⟩ := h; rw [h]; rfl))) (fun cdv A outer s H vs Q E hr h => ?_), m, F.kp, F.binds fun _ _ _ _ _ _ us hl => match us, hl with | [_, _, _], _ => rfl⟩
  obtain ⟨m, a, ns, ps, ms, rfl, dm, ha, hin, hml, q⟩ := h
  refine ⟨_, ((pss_cons (ps_set (i := 3) sc.nd rfl (by first | exact Or.inl rfl | exact Or.inr rfl) (pe_dc (own := [("one", 6), ("other", 7)]) rfl sc.nd (pi_listK K rfl (pe_fldK K rfl (pv 0) rfl)) (blkOk_by (own := [("one", 6), ("other", 7)]) (N := ["debate", "way", "members", "hit", "outside", "pairs", "one", "other", "pair"]) (sc := defScope s_overheard_in) (by decide +kernel)) (fun _ _ _ _ _ => (pg_tupK (n := 2) K rfl rfl (pgs_cons (pg_name (i := 6) sc.nd rfl (by first | exact Or.inl rfl | exact Or.inr rfl)) (pgs_cons (pg_name (i := 7) sc.nd rfl (by first | exact Or.inl rfl | exact Or.inr rfl)) pgs_nil)))) (fun _ _ _ _ _ => (pts_one (pt_cmpR (op_inA (α := Str) (by decide) (hu65 hr)) (pv 6) (pv 2) (by rfl)))) (fun _ _ _ _ _ => (pv 7)) (fun _ _ _ _ _ => pe_bl)))
    (pss_cons (ps_setLc (i := 4) (own := [("one", 6)]) rfl sc.nd rfl rfl (sw_true rfl rfl rfl (by decide +kernel)) (pi_listK K rfl (pe_fldK K rfl (pv 0) rfl)) (blkOk_by (own := [("one", 6)]) (N := ["debate", "way", "members", "hit", "outside", "pairs", "one", "other", "pair"]) (sc := defScope s_overheard_in) (by decide +kernel)) (fun _ _ _ _ _ => (pg_name (i := 6) sc.nd rfl (by first | exact Or.inl rfl | exact Or.inr rfl))) (fun _ _ _ _ _ => (pts_one (pt_cmpR (op_notInA (α := Str) (by decide) (hu65 hr)) (pv 6) (pv 2) (by rfl)))) (fun _ _ _ _ _ => (pv 6)))
    (pss_cons (ps_if (PW.pt (pw_and (pt_cmpR op_eq (pv 1) pe_str (nomark _)) (pw_and1 (pt_not (pt_val (pe_callB (cr_allK K rfl rfl) (by rfl) T.b_all (by decide +kernel) (pa_cons (pe_lc (own := [("one", 6)]) rfl sc.nd (pi_listK K rfl (pv 4)) (blkOk_by (own := [("one", 6)]) (N := ["debate", "way", "members", "hit", "outside", "pairs", "one", "other", "pair"]) (sc := defScope s_overheard_in) (by decide +kernel)) (fun _ _ _ _ _ => (pg_name (i := 6) sc.nd rfl (by first | exact Or.inl rfl | exact Or.inr rfl))) (fun _ _ _ _ _ => pts_nil) (fun _ _ _ _ _ => (pe_cmp (pc_din (hu_of hr) (pv 6) (pv 3)) (by rfl)))) pa_nil)))))))
      (pss_one (ps_ret pe_non))
      pss_nil)
    (pss_cons (ps_setLc (i := 5) (own := [("pair", 8)]) rfl sc.nd rfl rfl (sw_true rfl rfl rfl (by decide +kernel)) (pi_listK K rfl (pe_fldK K rfl (pv 0) rfl)) (blkOk_by (own := [("pair", 8)]) (N := ["debate", "way", "members", "hit", "outside", "pairs", "one", "other", "pair"]) (sc := defScope s_overheard_in) (by decide +kernel)) (fun _ _ _ _ _ => (pg_name (i := 8) sc.nd rfl (by first | exact Or.inl rfl | exact Or.inr rfl))) (fun _ _ _ _ _ => (pts_one (pt_cmpR (op_inA (α := Str) (by decide) (hu65 hr)) (pe_ix (ix_tupK K rfl) (pv 8) pe_int (fun _ _ => rfl)) (pv 2) (by rfl)))) (fun _ _ _ _ _ => (pv 8)))
    (pss_one (ps_ret (pe_lc (own := [("pair", 8)]) rfl sc.nd (pi_listK K rfl (pv 5)) (blkOk_by (own := [("pair", 8)]) (N := ["debate", "way", "members", "hit", "outside", "pairs", "one", "other", "pair"]) (sc := defScope s_overheard_in) (by decide +kernel)) (fun _ _ _ _ _ => (pg_name (i := 8) sc.nd rfl (by first | exact Or.inl rfl | exact Or.inr rfl))) (fun _ _ _ _ _ => (pts_one (PW.pt (pw_or (pt_cmpR (op_inA (α := Str) (by decide) (hu65 hr)) (pe_ix (ix_tupK K rfl) (pv 8) pe_int (fun _ _ => rfl)) (pv 2) (by rfl)) (pw_or1 (PW.pt (pw_and (pt_cmpR op_eq (pv 1) pe_str (nomark _)) (pw_and1 (pt_cmp (pc_dnotin (hu_of hr) (pe_ix (ix_tupK K rfl) (pv 8) pe_int (fun _ _ => rfl)) (pv 3)) (by rfl)))))))))) (fun _ _ _ _ _ => (pv 8)))))))))), ?_⟩
  obtain ⟨dx, l1, l2, d1, d2, a1, a2, ws, hm, h1, h2, hW, h3, h4, h5, h6⟩ := dm.ex
  have lp := dm.lp
  have ln := dm.ln
  have wl := hW.length
  have nok := dm.nms.ok
  have am := (nms_in dm.nms hin).at_ ha
  refine ⟨_, rfl, m, C, dx, _, .ref l2, rfl, hm, D.cl, D.nO, look_O _ _ _ _, l2, rfl, ⟨_, SqL.of h2⟩, fun Dd hD => ?_⟩
  refine dcG ps.length (fun i H' => Ex H H' ∧ ∃ kvs, H' Dd = some (.dK kvs) ∧ kvs.length ≤ i ∧ Hits kvs (ps.take i) ms) ⟨Ex.new hD, [], upd_same, Nat.zero_le _, fun x => by unfold hitB; simp [valV_nil]⟩ (fun i H' hi ⟨e, _⟩ => ⟨_, ws[i], SqL.of (e _ _ h2), List.getElem?_eq_getElem (by omega)⟩) (fun H' ⟨e, _⟩ => ⟨_, SqL.of (e _ _ h2), by omega⟩) ?_ ?_
  · rintro i H' x H2 hi ⟨e, kvs, hk, hkl, hh⟩ ⟨rfl, hx⟩
    obtain ⟨p, hp, hat⟩ := Paired.get hW (hx _ (SqL.of (e _ _ h2)))
    obtain ⟨T', rfl, hT⟩ := pr_ref hat
    have hpm := dm.mem _ (List.mem_of_getElem? hp)
    refine ⟨T', _, rfl, SqT.of (e _ _ hT), rfl, _, _, rfl, _, _, rfl, ⟨rfl, rfl, ?_⟩⟩
    refine ⟨_, rfl, _, rfl, p.1, ms, at_str (nok _ hpm.1), Enc.mono e am, _, rfl, ?_⟩
    have step : ∀ x : Str, hitB (ps.take (i + 1)) ms x = (hitB (ps.take i) ms x || (decide (p.1 ∈ ms) && decide (x = p.2))) := fun x => by
      rw [take_more hp, Bool.eq_iff_iff, Bool.or_eq_true, Bool.and_eq_true, hitB_iff, hitB_iff, decide_eq_true_iff, decide_eq_true_iff]
      constructor
      · rintro ⟨y, hy, hm⟩
        rcases List.mem_append.mp hm with g | g
        · exact .inl ⟨y, hy, g⟩
        · have g' := List.mem_singleton.mp g
          exact .inr ⟨by rw [← g']; exact hy, by rw [← g']⟩
      · rintro (⟨y, hy, hm⟩ | ⟨h1, h2⟩)
        · exact ⟨y, hy, List.mem_append_left _ hm⟩
        · exact ⟨p.1, h1, List.mem_append_right _ (List.mem_singleton.mpr (by rw [h2]))⟩
    by_cases hb : p.1 ∈ ms
    · rw [decide_eq_true hb]
      have s1 : (100001 : Nat) < sizeLine := by decide
      refine iteT ⟨_, rfl, kvs, .inr p.2, rfl, hk, by omega, Ex.mut e hD, _, upd_same, ?_, fun x => ?_⟩
      · have := length_putK kvs (.inr p.2) (.bl true)
        omega
      · rw [valV_put, step, decide_eq_true hb, ← hh x]
        by_cases hxz : x = p.2
        · subst hxz
          simp
        · have hne : ¬ (Sum.inr x : Key) = Sum.inr p.2 := fun q => hxz (Sum.inr.inj q)
          rw [if_neg hne]
          simp [hxz]
    · rw [decide_eq_false hb]
      refine iteF ⟨e, kvs, hk, by omega, fun x => ?_⟩
      rw [hh x, step, decide_eq_false hb]
      simp
  · rintro H1 ⟨e1, kvs, hk, hkl, hh⟩
    rw [List.take_length] at hh
    refine ⟨_, rfl, m, C, dx, _, .ref l1, rfl, e1 _ _ hm, D.cl, D.nS, look_S _ _ _ _, l1, rfl, ⟨_, SqL.of (e1 _ _ h1)⟩, fun D2 hD2 => ?_⟩
    refine lcL (R := StR) (S := StR) (f := fun x => if (!decide (x ∈ ms)) = true then some x else none) (xs := ns) st_stays st_stays (fun _ e => SqL.of (e _ _ (e1 _ _ h1))) (strs_self _) hD2 (by omega) (fun v x H2 e2 hv hx Kn Ky kn ky => ?_) (fun H2 md => ?_)
    · have hv' : v = .str x := hv
      subst hv'
      refine ⟨rfl, _, rfl, _, rfl, x, ms, at_str (nok x hx), Enc.mono (e1.trans e2) am, _, rfl, ?_⟩
      by_cases hb : x ∈ ms
      · rw [decide_eq_true hb]
        exact iteF (kn _ (Ex.refl _) (by simp [hb]))
      · rw [decide_eq_false hb]
        exact iteT ⟨_, rfl, ky _ x _ (Ex.refl _) (by simp [hb]) fun G eG _ => rfl⟩
    · have e2 := e1.trans md.ex
      have hk2 := md.ex _ _ hk
      clear md
      have ns1 : ¬ V.str heldW = V.str "settled" := fun h => absurd (V.str.inj h) (by decide +kernel)
      refine ⟨_, rfl, rfl, _, rfl, iteDn ns1 ?_⟩
      refine ⟨_, rfl, m, C, dx, _, .ref l2, rfl, e2 _ _ hm, D.cl, D.nO, look_O _ _ _ _, l2, rfl, ⟨_, SqL.of (e2 _ _ h2)⟩, fun D3 hD3 => ?_⟩
      refine lcL (R := fun _ v p => At H v p) (S := (At : Rel Pr)) (f := fun p => if decide (p.2 ∈ ms) = true then some p else none) (xs := ps) ⟨fun _ _ _ _ _ h => h⟩ at_stays (fun _ e => SqL.of (e _ _ (e2 _ _ h2))) hW hD3 (by omega) (fun v p H3 e3 hv hp Kn Ky kn ky => ?_) (fun H3 md => ?_)
      · obtain ⟨T', rfl, hT⟩ := pr_ref hv
        have hpm := dm.mem _ hp
        have hT3 := e3 _ _ (e2 _ _ hT)
        refine ⟨rfl, _, rfl, T', _, 1, .str p.2, rfl, rfl, SqT.of hT3, rfl, _, rfl, p.2, ms, at_str (nok _ hpm.2), Enc.mono (e2.trans e3) am, _, rfl, ?_⟩
        by_cases hb : p.2 ∈ ms
        · rw [decide_eq_true hb]
          exact iteT ⟨_, rfl, ky _ p _ (Ex.refl _) (by simp [hb]) fun G eG _ => Enc.mono (e2.trans eG) hv⟩
        · rw [decide_eq_false hb]
          exact iteF (kn _ (Ex.refl _) (by simp [hb]))
      · rw [fm_if] at md
        obtain ⟨hn3, ex3, ws3, hD3', hw3⟩ := md
        have hw3' : Each H3 ws3 (ps.filter fun p => decide (p.2 ∈ ms)) := Each.mono del_sub hw3
        have e3 := e2.trans ex3
        have hk3 := ex3 _ _ hk2
        have fl : (ps.filter fun p => decide (p.2 ∈ ms)).length ≤ 1000 := Nat.le_trans (List.length_filter_le _ _) lp
        refine ⟨_, rfl, D3, rfl, ⟨_, SqL.of hD3'⟩, fun D4 hD4 => ?_⟩
        refine lcL (R := fun _ v p => At H3 v p) (S := (At : Rel Pr)) (f := fun p => if (decide (p.1 ∈ ms) || !hitB ps ms p.1) = true then some p else none) (xs := ps.filter fun p => decide (p.2 ∈ ms)) ⟨fun _ _ _ _ _ h => h⟩ at_stays (fun _ e => SqL.of (e _ _ hD3')) hw3' hD4 (by omega) (fun v p H4 e4 hv hp Kn Ky kn ky => ?_) (fun H4 md => ?_)
        · obtain ⟨T', rfl, hT⟩ := pr_ref hv
          have hpm := dm.mem _ (List.mem_filter.mp hp).1
          have hT4 := e4 _ _ hT
          refine ⟨rfl, _, rfl, T', _, 0, .str p.1, rfl, rfl, SqT.of hT4, rfl, _, rfl, p.1, ms, at_str (nok _ hpm.1), Enc.mono (e3.trans e4) am, _, rfl, ?_⟩
          by_cases hb : p.1 ∈ ms
          · rw [decide_eq_true hb]
            exact iteT ⟨_, rfl, ky _ p _ (Ex.refl _) (by simp [hb]) fun G eG _ => Enc.mono eG hv⟩
          · rw [decide_eq_false hb]
            have g2 : DGet H4 Dd (.str p.1) (valV kvs (.inr p.1)) := .inl ⟨_, .inr p.1, .inl (e4 _ _ hk3), rfl, rfl⟩
            refine iteF ⟨_, rfl, rfl, _, rfl, iteD rfl ⟨_, rfl, T', _, 0, .str p.1, rfl, rfl, SqT.of hT4, rfl, _, rfl, Dd, _, rfl, g2, ?_⟩⟩
            rw [hh p.1]
            cases hc : hitB ps ms p.1 with
            | true => exact ⟨_, rfl, iteF (kn _ (Ex.refl _) (by simp [hb, hc]))⟩
            | false => exact ⟨_, rfl, iteT ⟨_, rfl, ky _ p _ (Ex.refl _) (by simp [hb, hc]) fun G eG _ => Enc.mono eG hv⟩⟩
        · rw [fm_if] at md
          obtain ⟨hn4, ex4, ws4, hD4', hw4⟩ := md
          exact q D4 _ (fresh_back e3 hn4) (e3.trans ex4) (at_list hD4' (Each.mono del_sub hw4))
end
end K73
set_option maxRecDepth 100000
set_option maxHeartbeats 4000000
namespace K73
open Enc (At enc)
open PySem L2 Evl
section
open PySem.Calls
open PySem.W (EachIs dataLe dataLt)
variable {α : Type} [Enc α] {X : Cx}
/-- sorted(xs): and what it holds stood in xs -/
def rSrtM (α : Type) [Enc α] : List V → Hp → VK → Prop := fun vs H Q => ∃ (a : Addr) (ys : List V) (xs : List α), vs = [.ref a] ∧ H a = some (.lst ys) ∧ Each H ys xs ∧ ∀ p ws, H p = none → Each H ws (srt xs) → (∀ w ∈ ws, w ∈ ys) → Q (.ref p) (upd H p (.lst ws))
theorem bears_in {H : Hp} {F : V → Prop} : ∀ {ys : List V} {us : List Value} {xs : List α}, Vals ys us → Each H ys xs → (∀ y ∈ ys, F y) → EachIs (fun u x => ∃ v, RelV v u ∧ At H v x ∧ F v) us xs
  | _, _, _, .nil, .nil, _ => .nil
  | _, _, _, .cons r t, .cons a b, h => .cons ⟨_, r, a, h _ List.mem_cons_self⟩ (bears_in t b fun y hy => h y (List.mem_cons_of_mem _ hy))
theorem in_bears {H : Hp} {F : V → Prop} : ∀ {us : List Value} {xs : List α}, EachIs (fun u x => ∃ v, RelV v u ∧ At H v x ∧ F v) us xs → ∃ ys, Vals ys us ∧ Each H ys xs ∧ ∀ y ∈ ys, F y
  | _, _, .nil => ⟨[], .nil, .nil, fun y hy => by cases hy⟩
  | _, _, .cons h t => by
    obtain ⟨v, r, a, f⟩ := h
    obtain ⟨ys, r', a', f'⟩ := in_bears t
    refine ⟨v :: ys, .cons r r', .cons a a', fun y hy => ?_⟩
    rcases List.mem_cons.mp hy with e | e
    · rw [e]; exact f
    · exact f' y e
theorem cr_srtM (hd : Enc.dep α ≤ 60) (hu : X.A.units + 64 < cLine) : CallR X (.builtin "sorted") (rSrtM α) := by
  intro pins s σ H vs us Q I r h
  obtain ⟨a, ys, xs, rfl, ha, he, q⟩ := h
  obtain ⟨its, rv, hl, hz⟩ := I.list (SqL.of (K := X.K) ha)
  rw [Vals.ref1 r]
  have e := bears_in (F := fun v => v ∈ ys) rv he fun y hy => hy
  refine PySem.W.sorted_data (bs := xs) (R := fun u x => ∃ v, RelV v u ∧ At H v x ∧ v ∈ ys) hl.isList e (e.mono fun u (x : α) h => reads_of I (x := x) ((fun ⟨v, h1, h2, _⟩ => ⟨v, h1, h2⟩ : (∃ v, RelV v u ∧ At H v x ∧ v ∈ ys) → Bears H u x) h)) (PySem.W.AllAlike.of Enc.alike) (sortable_enc xs) (by rw [← he.length]; exact hz)
    (fun b _ => by have := Enc.depth b; omega) fun out ho hb => ?_
  obtain ⟨ws, r', e', f'⟩ := in_bears hb
  obtain ⟨ep, hat⟩ := PyProof.Rows.sortedAll_at s.heap its out.toArray
  have hlen : ws.length ≤ sizeLine := by
    rw [e'.length, List.length_mergeSort, ← he.length]
    exact hz
  exact ⟨.ref _, upd H (s.heap.objs.size + 1) (.lst ws), I.laid (t' := s.toks) (fun _ _ => PyProof.Rows.sortedAll_old) (Nat.le_succ _) ⟨hlen, out, ep, r', hat⟩, rfl, q _ ws (I.hok.fresh (Nat.le_succ _)) e' f'⟩
end
/-! ### a list comprehension whose turns may change what stands -/
theorem lcW {J : It} {g : TG} {tt : TT} {te : TE} {ws : List Nat} {σ : L2.St} {H1 : Hp} {D : Addr} {Qd : Hp → Prop} (n : Nat) (Pv : Nat → Hp → Prop) (h0 : Pv 0 (upd H1 D (.lst []))) (go : ∀ i H', i < n → Pv i H' → J.go i H') (stop : ∀ H', Pv n H' → J.stop n H')
    (hs : ∀ i H' x H2, i < n → Pv i H' → J.yld i H' x H2 → g x (wipe σ ws) H2 fun σ2 H3 => wipe σ2 ws = wipe σ ws ∧ tt σ2 H3 fun b H4 =>
      if b = true then te σ2 H4 fun y H5 => ∃ acc, H5 D = some (.lst acc) ∧ acc.length < sizeLine ∧ Pv (i + 1) (upd H5 D (.lst (acc ++ [y]))) else Pv (i + 1) H4) (hd : ∀ H', Pv n H' → Qd H') :
    ∃ W : Nat → Nat → Hp → Prop, (∃ m, W 0 m (upd H1 D (.lst []))) ∧ ∀ i m H, W i m H →
      (J.stop i H ∧ Qd H) ∨ (J.go i H ∧ ∃ Nx : Hp → Prop, (∀ H', Nx H' → ∃ m', m' < m ∧ W (i + 1) m' H') ∧ ∀ x H', J.yld i H x H' → g x (wipe σ ws) H' fun σ2 H2 => wipe σ2 ws = wipe σ ws ∧ tt σ2 H2 fun b H3 =>
        if b = true then te σ2 H3 fun y H4 => ∃ acc, H4 D = some (.lst acc) ∧ acc.length < sizeLine ∧ Nx (upd H4 D (.lst (acc ++ [y]))) else Nx H3) := by
  refine ⟨fun i m H' => m + i = n ∧ Pv i H', ⟨n, rfl, h0⟩, ?_⟩
  rintro i m H' ⟨hm, hp⟩
  by_cases hi : i < n
  · exact .inr ⟨go i _ hi hp, Pv (i + 1), fun H2 p2 => ⟨n - (i + 1), by omega, by omega, p2⟩, fun x H2 hy => hs i _ x H2 hi hp hy⟩
  · have e : i = n := by omega
    subst e
    exact .inl ⟨stop _ hp, hd _ hp⟩
/-! ### calls by keywords alone, in the reverse order -/
def revG {α : Type} (us ws : List α) : List α := us ++ (us ++ (us ++ (us ++ ws.reverse)))
theorem vals_rev : ∀ {vs : List V} {us : List Value}, Vals vs us → Vals vs.reverse us.reverse
  | _, _, .nil => .nil
  | _, _, .cons r t => by
    rw [List.reverse_cons, List.reverse_cons]
    exact (vals_rev t).append (.cons r .nil)
theorem kbR {K : PySem.W.Frag} {x qual : Str} {st : Stmt} {f : Addr} {fd : FuncData} {a b c : Str} (F : Fun K x qual st f fd)
    (h : ∀ (kV doc pm : Value) (an : Option Addr) (cdv ct u v z : Value), bindArgs (PySem.W.fnOf x qual (defArgs st) (defBody st) (defScope st) .none kV doc pm an cdv ct) ⟨[], [(c, u), (b, v), (a, z)]⟩ = pure [(a, z), (b, v), (c, u)]) : KBinds K fd [a, b, c] [c, b, a] revG revG := by
  obtain ⟨oc, od, kV, doc, pm, an, cdv, ct, osl, rfl, lk, hcd⟩ := F.ex
  refine ⟨fun s us ws _ hl => ?_, fun r r2 => r.append (r.append (r.append (r.append (vals_rev r2))))⟩
  cases us with
  | cons u us =>
    unfold revG at hl
    simp at hl
    omega
  | nil =>
    have hl' : ws.length = 3 := by simpa [revG] using hl
    match ws, hl' with
    | [u, v, z], _ => exact .of_eq (h kV doc pm an cdv ct u v z)
/-- the name x stands for a def, called by keywords alone -/
def HasKw (P : Program) (w : World) (K : PySem.W.Frag) (mg : Str → Option Value) (base : Heap) (CX : CXT) (x : Str) (ps : List Str) (k : Nat) (sp : Sp) : Prop :=
  ∃ (f : Addr) (fd : FuncData), FnOk P w K mg base CX k f fd ps sp ∧ mg x = some (.ref f) ∧ PySem.W.keepIn K (.ref f) = true ∧ KBinds K fd ps ps.reverse revG revG
def tCallR (sp : Sp) (E : XK) (tk : TA) : TE := fun σ H Q => tk σ H fun zs H2 => sp zs.reverse H2 Q E
theorem pe_hasK {X : Cx} {CX : CXT} {k : Nat} {ps : List Str} {sp : Sp} {E : XK} {x : Str} {p pos : Pos} {kws : List Keyword} {tk : TA} (h : HasKw X.prog X.w X.K X.mg X.base CX x ps k sp) (hr : Room k X.A) (hx : Passes CX X E) (hkw : PK X kws tk) (hg : Gl X x := by rfl)
    (hall : (backToKw pos (keywordEach kws X.env)).all (·.1.isSome) = true := by rfl) (hks : (backToKw pos (keywordEach kws X.env)).filterMap (·.1) = ps.reverse := by rfl) (hdb : (x == ("__debug__" : Str)) = false := by decide)
    (hpl : ((backTo pos (starEach [] X.env)).any (·.1) || (backToKw pos (keywordEach kws X.env)).any (·.1.isNone)) = false := by rfl) :
    PE X (.Call (.Name x p) [] kws pos) (tCallR sp E tk) := by
  obtain ⟨f, fd, F, hm, hk, hb⟩ := h
  refine ⟨fun pins s σ H Q I h => ?_⟩
  refine wpAny_Call_Name_kw (ld_glob I hg hm ?_ hdb)
  refine PySem.W.callWith_KW0 (h₀ := X.base) I.ok.mod.kin hk hall ?_ hpl
  refine thn (hkw.run pos pins s σ H _ I h) fun ws s2 ⟨zs, H2, I2, rz, q2⟩ => ⟨I2.kIn, ?_⟩
  rw [hks]
  exact run_fnk (us := []) (vs := []) F hr hb hx I2 .nil rz q2
theorem pkA_nil {X : Cx} : PK X [] tNil := pk_nil
section
variable {X : Cx} {α : Type} [Enc α] [DecidableEq α]
/-- x != y of a list and a list or None -/
def rNeO (α : Type) [Enc α] [DecidableEq α] : R2 := fun x y H Q => ∃ a : List α, At H x a ∧ ((y = .non ∧ Q (.bl true) H) ∨ ∃ b : List α, At H y b ∧ Q (.bl (!decide (a = b))) H)
theorem op_neO (hd : Enc.dep (List α) ≤ 64) (hu : X.A.units + 64 < cLine) : OpR X (compareOp .NotEq) (rNeO α) := by
  intro pins s σ H x y v u Q I rx ry h
  obtain ⟨a, ha, ⟨rfl, q⟩ | ⟨b, hb, q⟩⟩ := h
  · exact op_neD hu pins s σ H x .non v u Q I rx ry ⟨_, _, Enc.dp ha, .non, shaped_enc ha hd, by decide, q⟩
  · exact op_neA hd hu pins s σ H x y v u Q I rx ry ⟨a, b, ha, hb, q⟩
end
def rDictP (K : PySem.W.Frag) : List V → Hp → VK → Prop := fun xs H Q => ∃ (a : Addr) (ps : List Addr) (kvs : List (Key × V)), xs = [.ref a] ∧ SqL K H a (ps.map V.ref) ∧ Paired (fun p kv => SqT K H p [kV kv.1, kv.2]) ps kvs ∧ ∀ p, H p = none → Q (.ref p) (upd H p (.dK (mergeK [] kvs)))
theorem call_dictPK {X : Cx} (K : PySem.W.Frag) (hK : X.K = K) (hc : X.calm = true) : CallR X (.type "dict") (rDictP K) := hK ▸ call_dictP hc
end K73
set_option maxRecDepth 100000
set_option maxHeartbeats 4000000
namespace K73
open Enc (At enc)
open PySem L2 Evl PySem.Spec PyProof.Rows
/-! ### a try with several clauses, each with the same name for the exception -/
abbrev Clause := Value × (Addr → Value → Option Addr → TS)
/-- behind a clause the name's slot is empty again -/
def outAs (i : Nat) (D : Ends) : Ends := { nx := fun σ H => D.nx (σ.set i none) H, rt := D.rt, bk := fun σ H => D.bk (σ.set i none) H, ct := fun σ H => D.ct (σ.set i none) H }
/-- what the clauses wish, tried in turn -/
def wAll (K : PySem.W.Frag) (i : Nat) (Wout : WX) (D : Ends) (l : List Clause) : WX := l.foldr (fun p W cls d σ H => ∃ b, PySem.W.exmOne K cls p.1 = some b ∧ (b = true → ∀ a, H a = none → p.2 a cls d (outAs i D) (σ.set i (some (.ref a))) H) ∧ (b = false → W cls d σ H)) Wout
/-- the handlers are such clauses, all with the name n -/
inductive AllAs (X : Cx) (n : Str) : List ExceptHandler → List Clause → Prop
  | nil : AllAs X n [] []
  | cons {x : Str} {p : Clause} {b₀ : Stmt} {suite : List Stmt} {np pos : Pos} {hs : List ExceptHandler} {l : List Clause} (hc : Names X x p.1)
      (hsu : ∀ (a : Addr) (oe : Obj) (cls : Value) (d : Option Addr) (pn : List (Addr × Obj)), Zc cls d oe → (∃ vs, oe.data = .fields vs) → PSs (X.suite a ((a, oe) :: pn)) (b₀ :: suite) (p.2 a cls d)) (r : AllAs X n hs l) : AllAs X n (.ExceptHandler (some (.Name x np)) (some n) (b₀ :: suite) pos :: hs) (p :: l)
theorem ps_try_asAll {X : Cx} {n : Str} {i : Nat} {body : List Stmt} {h₀ : ExceptHandler} {hds : List ExceptHandler} {l : List Clause} {pos : Pos} {tb : WX → TS} {Wout : WX} (hs : X.stack = X.env :: X.outer) (hf : X.env.frame = some X.env.locals) (hN : X.N.Nodup) (hi : X.N[i]? = some n) (hln : X.env.kindOf n = some .local) (tk : Takes X Wout)
    (hb : ∀ (W : WX) (pn : List (Addr × Obj)) (xe : Value → Shared → Prop), Takes (X.tr pn xe) W → PassesOwn (model X.prog X.w) X.A X.env xe → PSs (X.tr pn xe) body (tb W))
    (hh : AllAs X n (h₀ :: hds) l) : PS X (.Try body (h₀ :: hds) [] [] pos) (fun D σ H => tb (wAll X.K i Wout D l) D σ H) := by
  constructor
  intro pins s σ H D I h
  have ok := I.ok
  have frames : X.A.frames = some (X.env :: X.outer) := ok.frames.trans (congrArg some hs)
  have nloc : Loc X.env.scope n := .inl hln
  refine wpAny_Try_except (wpAny_mono ((hb (wAll X.K i Wout D l) (X.pn ++ pins) (fun e s₁ => wpAny (model X.prog X.w) X.A (noteFrame e X.env) (fun _ s₂ => wpAny (model X.prog X.w) X.A (setFlight e none) (fun _ s₃ =>
    wpAny (model X.prog X.w) X.A (handleBy e X.env (h₀ :: hds)) (SP X pins D) X.xe s₃) X.xe s₂) X.xe s₁) (fun u s' caught => ?_) PassesOwn.looking).run [] s σ H D (I.toTry _) h) (fun fl s1 hsp => ?_) (fun e s1 he => he))
  · obtain ⟨a, B, sI, pins', σ', H', cls, d, rfl, J', nb, up, sky, na, os, ag, w⟩ := caught
    have J : Inv X pins σ' H' sI := J'.ofTry ok
    have sky' : Sky B (X.env :: X.outer) a (Zc cls d) X.env.locals s'.heap := hs ▸ sky
    show wpAny (model X.prog X.w) X.A (noteFrame (.ref a) X.env) _ _ _
    refine Sky.land Zc.steady frames hf sky' fun h3 fl3 up3 => ?_
    have J3 : Inv X pins σ' H' { s' with heap := h3 } := J.landed nb fl3.1 (up.trans up3) os ag
    obtain ⟨oe3, vs3, he3, hz3, hd3⟩ := fl3.there
    have apart : a ∉ frs (X.env :: X.outer) := fun hm => by
      obtain ⟨_, o', e', hnf⟩ := fl3.2.2.1.mem hm
      rw [he3] at e'
      cases e'
      exact hnf _ hd3
    have nL : a ≠ X.env.locals := fun z => apart (List.mem_filterMap.mpr ⟨X.env, List.mem_cons_self, by rw [hf, z]⟩)
    have nF : a ∉ X.fs := fun hm => by
      obtain ⟨e, he, q⟩ := List.mem_filterMap.mp hm
      exact apart (List.mem_filterMap.mpr ⟨e, List.mem_cons_of_mem _ he, q⟩)
    have S3 := J3.suite he3 hd3 na nL nF
    have all : ∀ {hs' : List ExceptHandler} {l' : List Clause}, AllAs X n hs' l' → wAll X.K i Wout D l' cls d σ' H' → wpAny (model X.prog X.w) X.A (handleBy (.ref a) X.env hs') (SP X pins D) X.xe { s' with heap := h3 } := by
      intro hs' l' hk
      induction hk with
      | nil =>
        intro w
        refine wpAny_handleBy_nil ?_
        obtain ⟨k1, k2, k3, oe, vs, T, oT, ts', he, hz, hd, h1, hr⟩ := id fl3
        have out : wpAny (model X.prog X.w) X.A (setFlight (.ref a) X.env.frame) (fun _ s4 => wpAny (model X.prog X.w) X.A (throw (.ref a) : Sem Flow) (SP X pins D) X.xe s4) X.xe { s' with heap := h3 } := by
          rw [hf]
          exact HandSPX.setFlight_upZ fl3 fun h4 hh4 up4 => wpAny_throw (tk _ _ ⟨a, B, sI, pins, σ', H', cls, d, rfl, J, nb, (up.trans up3).trans up4, .inr (.inr (by rw [hs]; exact hh4)), na, os, ag, w⟩)
        unfold PySem.passOn
        refine wpAny_bind (wpAny_field he hd h1 ?_)
        rw [if_neg (show ¬ ((Value.ref T == Value.none) = true) from by simp)]
        first
          | exact wpAny_bind (wpAny_pure (wpAny_bind out))
          | exact wpAny_bind out
      | @cons x p b₀ suite np pos' hs2 l2 hc hsu r ih =>
        rintro ⟨b, hb1, yes, no⟩
        refine wpAny_handleBy_cons (codeAny_handlers_test ?_) (by intro q; cases q)
        have LT : PySem.W.Looks (model X.prog X.w) h3 (typeOf (.ref a)) cls := fun A Q E s k q => wpAny_typeOf_ref (k _ _ he3) (by rw [hz3.1]; exact q)
        have LM := PySem.W.exm_one (M := model X.prog X.w) (J3.kIn) LT hb1
        have test : ∀ {Q : Value → Shared → Prop} {E : Value → Shared → Prop}, Q p.1 { s' with heap := h3 } → wpAny (model X.prog X.w) (X.A.mark (some (.ref a))) (eval (.Name x np) X.env) Q E { s' with heap := h3 } := fun {Q E} q => by
          obtain ⟨hg, hdbg, hm | ⟨hm, hv, hnn⟩⟩ := hc
          · exact ld_glob (X := X.suite a ((a, oe3) :: (X.pn ++ pins))) S3 hg hm q hdbg
          · exact ld_blt (X := X.suite a ((a, oe3) :: (X.pn ++ pins))) S3 hg hm hv q hnn hdbg
        refine test (LM.here ?_)
        cases b with
        | false => exact ih (no rfl)
        | true =>
          refine codeAny_handlers_suite_as (HandSPX.lands_againZ fl3 fun h4 fl4 up4 => ?_)
          have J4 : Inv X pins σ' H' { s' with heap := h4 } := J.landed nb fl4.1 ((up.trans up3).trans up4) os ag
          obtain ⟨oe4, vs4, he4, hz4, hd4⟩ := fl4.there
          refine store_ok (X := X.suite a ((a, oe4) :: (X.pn ++ pins))) (v := .ref a) (J4.suite he4 hd4 na nL nF) hN hi nloc rfl (fun s5 S5 => ?_) (.inr hln)
          refine wpAny_mono ((hsu a oe4 cls d (X.pn ++ pins) hz4 ⟨_, hd4⟩).run [] s5 _ H' _ S5 (yes rfl a na)) (fun fl s6 hsp => ?_) (fun _ _ z => False.elim z)
          have gone : ∀ {σ6 : L2.St} {H6 : Hp} {Q : Shared → Prop}, Inv (X.suite a ((a, oe4) :: (X.pn ++ pins))) [] σ6 H6 s6 → (∀ s7, Inv X pins (σ6.set i none) H6 s7 → Q s7) →
              wpAny (model X.prog X.w) X.A (do bindName X.env n .none; unbindBehindTheSuite X.env n pos') (fun _ s7 => Q s7) X.xe s6 := fun S6 hq => gone_ok (S6.unsuite ok) hN hi hln hq
          cases fl with
          | ret u =>
            obtain ⟨v6, σ6, H6, S6, r6, q6⟩ := hsp
            exact gone S6 fun s7 J7 => ⟨_, _, _, J7, r6, q6⟩
          | next => obtain ⟨σ6, H6, S6, q6⟩ := hsp; exact gone S6 fun s7 J7 => ⟨_, _, J7, q6⟩
          | brk => obtain ⟨σ6, H6, S6, q6⟩ := hsp; exact gone S6 fun s7 J7 => ⟨_, _, J7, q6⟩
          | cont => obtain ⟨σ6, H6, S6, q6⟩ := hsp; exact gone S6 fun s7 J7 => ⟨_, _, J7, q6⟩
    exact all hh w
  · cases fl with
    | ret u => obtain ⟨v, σ', H', J', r, q⟩ := hsp; exact ⟨v, σ', H', J'.ofTry ok, r, q⟩
    | next => obtain ⟨σ', H', J', q⟩ := hsp; exact wpAny_execs_nil ⟨σ', H', J'.ofTry ok, q⟩
    | brk => obtain ⟨σ', H', J', q⟩ := hsp; exact ⟨σ', H', J'.ofTry ok, q⟩
    | cont => obtain ⟨σ', H', J', q⟩ := hsp; exact ⟨σ', H', J'.ofTry ok, q⟩
end K73
set_option maxRecDepth 100000
set_option maxHeartbeats 4000000
namespace K73
open Enc (At enc)
open PySem PySem.Spec PyProof.Rows L2 Evl LamX PySem.Calls
open PySem.W (CodeHd tabObj)
/-! ### code objects that are made while the program runs, each with a table of its own -/
/-- at c stands a code object of the name q; its own table is at T -/
def CodeX (c T : Addr) (q : Str) : HO := .ext fun h => CodeHd h c T ∧ h.CodeRec (.ref c) q
theorem codeX_at {Pg : Program} {w : World} {H : Hp} {h : Heap} {c T : Addr} {q : Str} (hok : HOk Pg w H h) (e : H c = some (CodeX c T q)) : CodeHd h c T ∧ h.CodeRec (.ref c) q := by
  obtain ⟨z, _, _⟩ := hok c _ e
  exact z
theorem codeX_ne {c T : Addr} {q : Str} (ps : Array Value) : CodeX c T q ≠ .tbl ps := fun z => by
  unfold CodeX at z
  cases z
theorem codeX_ok {Pg : Program} {w : World} {H : Hp} {h : Heap} {c T : Addr} {q : Str} (a : CodeHd h c T) (b : h.CodeRec (.ref c) q) : ObjOk Pg w H h c (CodeX c T q) := by
  obtain ⟨c2, oc, vs, t, e, g, r⟩ := id b
  cases e
  refine ⟨⟨a, b⟩, ⟨oc, g⟩, ?_⟩
  rintro h1 h2 ⟨⟨o, vs, file, tf, fl, tg, inF, tx, tt, e1, r1⟩, c3, oc3, vs3, t3, e3, g3, r3⟩ st
  cases e3
  exact ⟨⟨o, vs, file, tf, fl, tg, inF, tx, tt, st _ e1, r1⟩, _, oc3, vs3, t3, rfl, st _ g3, r3⟩
/-- the heap behind the making of a code object c of the name q, its table at T; the maker's table at P is qs now -/
def coded (H : Hp) (P : Addr) (qs : Array Value) (T c : Addr) (q : Str) : Hp := upd (upd (upd H P (.tbl qs)) T (.tbl #[])) c (CodeX c T q)
section
variable {H : Hp} {P T c : Addr} {qs : Array Value} {q : Str}
theorem coded_c : coded H P qs T c q c = some (CodeX c T q) := upd_same
theorem coded_T (h : c ≠ T) : coded H P qs T c q T = some (.tbl #[]) := by
  unfold coded
  rw [upd_ne (Ne.symm h), upd_same]
theorem coded_P (h1 : P ≠ c) (h2 : P ≠ T) : coded H P qs T c q P = some (.tbl qs) := by
  unfold coded
  rw [upd_ne h1, upd_ne h2, upd_same]
theorem coded_at {b : Addr} (h1 : b ≠ c) (h2 : b ≠ T) (h3 : b ≠ P) : coded H P qs T c q b = H b := by
  unfold coded
  rw [upd_ne h1, upd_ne h2, upd_ne h3]
end
section
variable {X : Cx} {pins : List (Addr × Obj)} {σ : L2.St} {H : Hp} {s : Shared}
theorem inv_coded {P T c : Addr} {q : Str} {ps more : Array Value} {h' : Heap} {t' : Nat} (I : Inv X pins σ H s) (hP : H P = some (.tbl ps)) (k : ∀ b o, b ≠ P → s.heap.get? b = some o → h'.get? b = some o)
    (hm : h'.get? P = some (tabObj (ps ++ more))) (hT : h'.get? T = some (tabObj #[])) (gT : s.heap.objs.size ≤ T) (gc : s.heap.objs.size ≤ c) (hne : c ≠ T) (hc : CodeHd h' c T ∧ h'.CodeRec (.ref c) q) :
    Inv X pins σ (coded H P (ps ++ more) T c q) { s with heap := h', toks := t' } := by
  have nT : H T = none := I.hok.fresh gT
  have nC : H c = none := I.hok.fresh gc
  have PT : P ≠ T := ne_of_none hP nT
  have PC : P ≠ c := ne_of_none hP nC
  have nP : ∀ b, H b = none → b ≠ P := fun b e z => by
    rw [z, hP] at e
    cases e
  have dP : ∀ b u, H b = some u → (∀ ps, u ≠ .tbl ps) → b ≠ P := fun b u e n z => by
    rw [z, hP] at e
    exact n ps (Option.some.inj e).symm
  have old : ∀ b o, s.heap.get? b = some o → b < s.heap.objs.size := fun b o e => Heap.lt_size e
  have same : ∀ b u, H b = some u → b ≠ P → coded H P (ps ++ more) T c q b = H b := fun b u e n => coded_at (ne_of_none e nC) (ne_of_none e nT) n
  refine I.step (g' := s.gens) (d' := s.drawn) (ch := []) (fun b hb => absurd hb List.not_mem_nil) (fun b o _ _ _ e n => k b o (nP b n) e) (fun b o _ _ _ e n => ⟨o.slots, k b o (nP b n) e⟩)
    (fun b o _ e n => ?_) (fun b o _ e => ?_) (fun b xs e => (same b _ e (dP b _ e fun _ z => nomatch z)).trans e) (fun b o u e => (same b _ e (dP b _ e fun _ z => nomatch z)).trans e) (fun b qs e => ?_) (fun m hn => ?_) (fun b u e => ?_) I.bare
  · have l := old b o e
    rw [coded_at (Nat.ne_of_lt (Nat.lt_of_lt_of_le l gc)) (Nat.ne_of_lt (Nat.lt_of_lt_of_le l gT)) (nP b n)]
    exact n
  · by_cases hb : b = P
    · exact ⟨_, hb ▸ hm⟩
    · exact ⟨o, k b o hb e⟩
  · by_cases hb : b = P
    · rw [hb, hP] at e
      cases e
      exact ⟨more, by rw [hb]; exact coded_P PC PT⟩
    · exact ⟨#[], by rw [same b _ e hb, e, Array.append_empty]⟩
  · obtain ⟨ob, es, ep, ho, r⟩ := hn
    exact ⟨ob, es, ep, k _ ob (nP _ I.free) ho, r⟩
  · by_cases h1 : b = c
    · subst h1
      rw [coded_c] at e
      cases e
      exact codeX_ok hc.1 hc.2
    by_cases h2 : b = T
    · subst h2
      rw [coded_T hne] at e
      cases e
      exact hT
    by_cases h3 : b = P
    · subst h3
      rw [coded_P PC PT] at e
      cases e
      exact hm
    rw [coded_at h1 h2 h3] at e
    refine (I.hok b u e).stay (fun d v hd q => k d v ?_ q) (fun d z => (same d _ z (dP d _ z fun _ z => nomatch z)).trans z) fun d xs z => (same d _ z (dP d _ z fun _ z => nomatch z)).trans z
    rcases hd with z | z
    · exact z ▸ h3
    · exact dP d _ z fun _ z => nomatch z
end
/-! ### a lambda made -/
section
variable {M : Model} {A : Around} {E : Value → Shared → Prop} {s : Shared} {name qual : Str} {params : Arguments} {body : Expr} {scope : Scope} {env : Env} {c P : Addr} {ps : Array Value} {pos : Pos} {fl : Nat} {mg : Str → Option Value} {clos : List (Str × Addr)} {Q : Value → Shared → Prop}
theorem fresh_lam (hne : ∃ y r, clos = y :: r) (hcl : closureFor scope env = pure clos) (hge : env.globals = mainGlobals) (hg : s.heap.Ns mainGlobals mg) (hcode : env.code = .ref c) (C : CodeHd s.heap c P) (hP : s.heap.get? P = some (tabObj ps)) (ht : TriplesOk ps.toList)
    (hnf : codeAmong pos ps.toList = none) (hgP : mainGlobals ≠ P) (hb : s.heap.BuiltinsAt mg P)
    (h : ∀ (c' T : Addr) (ctv : Value) (h' : Heap) (tk : Tok), Heap.ExtBut P s.heap h' → s.heap.objs.size ≤ c' → s.heap.objs.size ≤ T → c' < h'.objs.size → T < h'.objs.size → c' ≠ T → CodeHd h' c' T → h'.get? T = some (tabObj #[]) → h'.CodeRec (.ref c') qual →
      h'.get? P = some (tabObj (ps ++ #[rawInt pos.line, rawInt pos.col, .ref c'])) → Q (.ref h'.objs.size) { s with heap := h'.push (PySem.W.kla_obj name qual params body scope clos ((mg "__name__").getD .none) c' ctv), toks := tk }) :
    wpAny M A (makeFunction name qual params (.expr body) scope env [] [] [] pos fl) Q E s := by
  obtain ⟨bm, ob, hbm, n0, _, nP, hbo, hcls, hdict, hdata⟩ := hb
  rw [makeFunction_eq]
  simp only [List.zip_nil_right, List.filterMap_nil, List.isEmpty_nil, if_true, pure_bind]
  unfold makeTail
  rw [hcl, hge]
  refine wpAny_bind (wpAny_pure ?_)
  obtain ⟨y, r, rfl⟩ := hne
  have kp : ∀ (o : Obj), ∀ b u, s.heap.get? b = some u → (s.heap.push o).get? b = some u := fun o b u e => Heap.get?_push_of_some _ e
  simp only [List.isEmpty_cons, Bool.false_eq_true, if_false]
  refine wpAny_bind (wpAny_newTextTuple ?_)
  refine wpAny_bind (wpAny_functionCodeX hcode ((C.keeps (kp _)).code (kp _ _ _ hP) ht) ((C.keeps (kp _)).tab (kp _ _ _ hP)) hnf fun c' h' tk hx hge' hlt _ hrec htb own => ?_)
  obtain ⟨T, gT, isT, tabT⟩ := own
  have hg' : h'.Ns mainGlobals mg := (hg.push _).extBut hx hgP
  have hx' : Heap.ExtBut P s.heap h' := fun b o n e => hx b o n (kp _ _ _ e)
  have up : ∀ {b : Nat}, (s.heap.push (Obj.mk (.type "tuple") none (.seq ((List.map (fun x : Str × Addr => Value.ref x.2) (List.mergeSort (y :: r) fun a b => decide (a.1.cps.toList ≤ b.1.cps.toList))).toArray) 0) #[])).objs.size ≤ b → s.heap.objs.size ≤ b := fun {b} z => Nat.le_trans (by rw [Heap.size_push]; omega) z
  refine wpAny_bind (wpAny_builtinsFor hg' hbm n0 (hx' _ _ nP hbo) hcls hdict hdata ?_)
  refine wpAny_bind (wpAny_nsGet hg' ?_)
  have hd := CodeHd.of isT tabT
  have cT : c' ≠ T := let ⟨_, _, _, _, _, _, _, _, _, _, _, _, _, _, _, _, _, _, n⟩ := hd; n
  exact wpAny_bind (wpAny_pure (wpAny_newObj_type (h c' T _ h' tk hx' (up hge') (up gT) hlt (Heap.lt_size tabT.2) cT hd tabT.2 hrec htb.2) (by size_fits)))
end
/-- what the making of a lambda has done: its code object stands at c', new, or found in the table at P -/
inductive Lam1 (H : Hp) (P : Addr) (ps : Array Value) (pos : Pos) (q : Str) (c' : Addr) : Hp → Prop
  | new (T : Addr) (hn : codeAmong pos ps.toList = none) (nT : H T = none) (nc : H c' = none) (ne : c' ≠ T) : Lam1 H P ps pos q c' (coded H P (ps ++ #[rawInt pos.line, rawInt pos.col, .ref c']) T c' q)
  | old (ho : codeAmong pos ps.toList = some (.ref c')) : Lam1 H P ps pos q c' H
theorem clo_cons {cells : List (Str × Addr)} : ∀ {names : List (Str × NameKind)} {y : Str}, (y, NameKind.free) ∈ names → (∀ z ∈ names, z.2 = .free → ∃ c, cells.lookup z.1 = some c) → ∃ a r, cloFrom cells names [] = a :: r := fun {names y} hy hf => by
  obtain ⟨c, hc⟩ := hf _ hy rfl
  have h := cloFrom_has (cells := cells) (acc := []) hy
  cases e : cloFrom cells names [] with
  | nil => rw [e] at h; simp at h
  | cons a r => exact ⟨a, r, rfl⟩
section
variable {X : Cx} {pins : List (Addr × Obj)} {σ : L2.St} {H : Hp} {s : Shared}
theorem lam_makeX {c P : Addr} {ps : Array Value} {params : Arguments} {body : Expr} {scope : Scope} {pos : Pos} {E : Value → Shared → Prop} {Q : Value → Shared → Prop} {y : Str} (I : Inv X pins σ H s) (C : CodeHd s.heap c P) (hcode : X.env.code = .ref c) (hP : H P = some (.tbl ps)) (ht : TriplesOk ps.toList)
    (bm : s.heap.BuiltinsAt X.mg P) (gP : mainGlobals ≠ P) (hr : ∀ cv, codeAmong pos ps.toList = some cv → ∃ c', cv = .ref c') (hdef : defaultsOf params X.env = ([], [])) (hy : (y, NameKind.free) ∈ scope.names) (hfree : ∀ y ∈ scope.names, y.2 = .free → ∃ c, X.env.cells.lookup y.1 = some c)
    (h : ∀ (f c' : Addr) (pm ctv : Value) (H1 : Hp) (s' : Shared), Lam1 H P ps pos (X.env.qual ++ "<lambda>") c' H1 → Inv X pins σ H1 s' →
      s'.heap.get? f = some (PySem.W.kla_obj "<lambda>" (X.env.qual ++ "<lambda>") params body scope (cloFrom X.env.cells scope.names []) pm c' ctv) → H1 f = none → f ∉ frs X.stack → Q (.ref f) s') :
    wpAny (model X.prog X.w) X.A (eval (.Lambda params body scope pos) X.env) Q E s := by
  have hP' : s.heap.get? P = some (tabObj ps) := I.hok P _ hP
  have apart : ∀ f, s.heap.objs.size ≤ f → f ∉ frs X.stack := fun f hf z => (List.mem_cons.mp (I.stkSub _ z)).elim (fun e => absurd I.lt (by rw [← e]; exact Nat.not_lt.mpr hf)) fun e => I.nofs hf e
  refine PySem.W.kla_eval hdef ?_
  cases hc : codeAmong pos ps.toList with
  | some cv =>
    obtain ⟨c', rfl⟩ := hr cv hc
    refine PySem.W.kla_makeFunctionHit (mg := X.mg) (c := c) (P := P) (ps := ps) (closure_ok hfree) I.ok.glob (I.mod.glob.keeps I.bk) hcode C hP' ht hc bm fun ctv h' tk hx hz => ?_
    have I1 := I.kept (t' := tk) (h' := h'.push (PySem.W.kla_obj "<lambda>" (X.env.qual ++ "<lambda>") params body scope (cloFrom X.env.cells scope.names []) ((X.mg "__name__").getD .none) c' ctv)) fun b o e => Heap.get?_push_of_some _ (hx b o e)
    exact h h'.objs.size c' _ ctv H _ (.old hc) I1 (Heap.get?_push_size _ rfl) (I.hok.fresh hz) (apart _ hz)
  | none =>
    refine fresh_lam (clo_cons hy hfree) (closure_ok hfree) I.ok.glob (I.mod.glob.keeps I.bk) hcode C hP' ht hc gP bm fun c' T ctv h' tk hx gc gT lc lT hne hd hT hrec hPt => ?_
    have sz : s.heap.objs.size ≤ h'.objs.size := Nat.le_trans gc (Nat.le_of_lt lc)
    have ob : ∀ {b o}, h'.get? b = some o → (h'.push (PySem.W.kla_obj "<lambda>" (X.env.qual ++ "<lambda>") params body scope (cloFrom X.env.cells scope.names []) ((X.mg "__name__").getD .none) c' ctv)).get? b = some o := fun e => Heap.get?_push_of_some _ e
    obtain ⟨c2, oc, vs, t, e2, g2, r2⟩ := id hrec
    cases e2
    have I1 := inv_coded (t' := tk) (more := #[rawInt pos.line, rawInt pos.col, .ref c']) (q := X.env.qual ++ "<lambda>") I hP (fun b o n e => ob (hx b o n e)) (ob hPt) (ob hT) gT gc hne ⟨hd.keeps fun _ _ e => ob e, ⟨_, oc, vs, t, rfl, ob g2, r2⟩⟩
    refine h h'.objs.size c' _ ctv _ _ (.new T hc (I.hok.fresh gT) (I.hok.fresh gc) hne) I1 (Heap.get?_push_size _ rfl) ?_ (apart _ sz)
    rw [coded_at (Nat.ne_of_gt lc) (Nat.ne_of_gt lT) (fun z => ?_)]
    · exact I.hok.fresh sz
    · exact absurd (Heap.lt_size hP') (by rw [← z]; exact Nat.not_lt.mpr sz)
end
/-! ### tables of such code objects -/
/-- the table at P: each code object that it tells is as G says -/
def TabG (G : Hp → Addr → Prop) (H : Hp) (P : Addr) : Prop := ∃ ps : Array Value, H P = some (.tbl ps) ∧ TriplesOk ps.toList ∧ ∀ (pos : Pos) (cv : Value), codeAmong pos ps.toList = some cv → ∃ c, cv = .ref c ∧ G H c
def CodeIn (q : Str) (H : Hp) (c : Addr) : Prop := ∃ T, H c = some (CodeX c T q)
/-- .. and its own table tells code objects of the name q2 -/
def CodeUp (q q2 : Str) (P : Addr) (H : Hp) (c : Addr) : Prop := ∃ T, H c = some (CodeX c T q) ∧ T ≠ P ∧ TabG (CodeIn q2) H T
abbrev Tab2 (q q2 : Str) (P : Addr) (H : Hp) : Prop := TabG (CodeUp q q2 P) H P
theorem TabG.nil {G : Hp → Addr → Prop} {H : Hp} {P : Addr} (h : H P = some (.tbl #[])) : TabG G H P := ⟨#[], h, True.intro, fun pos cv hc => by
  have z : codeAmong pos [] = some cv := hc
  simp [codeAmong] at z⟩
theorem CodeUp.inn {q q2 : Str} {P : Addr} {H : Hp} {c : Addr} (h : CodeUp q q2 P H c) : CodeIn q H c := let ⟨T, a, _⟩ := h; ⟨T, a⟩
theorem TabG.ext {G : Hp → Addr → Prop} {H H' : Hp} {P : Addr} (t : TabG G H P) (e : Ex H H') (g : ∀ c, G H c → G H' c) : TabG G H' P :=
  let ⟨ps, h1, h2, h3⟩ := t; ⟨ps, e _ _ h1, h2, fun pos cv hc => let ⟨c, a, b⟩ := h3 pos cv hc; ⟨c, a, g c b⟩⟩
theorem CodeIn.ext {q : Str} {H H' : Hp} {c : Addr} (h : CodeIn q H c) (e : Ex H H') : CodeIn q H' c := let ⟨T, a⟩ := h; ⟨T, e _ _ a⟩
theorem CodeIn.extN {q : Str} {H H' : Hp} {c : Addr} (h : CodeIn q H c) (e : ExtN H H') : CodeIn q H' c := let ⟨T, a⟩ := h; ⟨T, e _ _ a codeX_ne⟩
theorem CodeUp.ext {q q2 : Str} {P : Addr} {H H' : Hp} {c : Addr} (h : CodeUp q q2 P H c) (e : Ex H H') : CodeUp q q2 P H' c := let ⟨T, a, b, t⟩ := h; ⟨T, e _ _ a, b, t.ext e fun _ g => g.ext e⟩
theorem Tab2.ext {q q2 : Str} {P : Addr} {H H' : Hp} (t : Tab2 q q2 P H) (e : Ex H H') : Tab2 q q2 P H' := TabG.ext t e fun _ g => g.ext e
section
variable {H H1 : Hp} {P : Addr} {ps : Array Value} {pos : Pos} {q q2 : Str} {c' : Addr}
theorem coded_ext {qs : Array Value} {T c : Addr} (hP : H P = some (.tbl ps)) (nT : H T = none) (nc : H c = none) : ExtN H (coded H P qs T c q) := fun b o e n => by
  rw [coded_at (ne_of_none e nc) (ne_of_none e nT) fun z => n ps (Option.some.inj (e.symm.trans (z ▸ hP)))]
  exact e
theorem Lam1.extN (h : Lam1 H P ps pos q c' H1) (hP : H P = some (.tbl ps)) : ExtN H H1 := by
  cases h with
  | new T hn nT nc ne => exact coded_ext hP nT nc
  | old _ => exact ExtN.refl H
theorem snoc_list {a b c : Value} : (ps ++ #[a, b, c]).toList = ps.toList ++ [a, b, c] := by simp
/-- a lambda of the outer def -/
theorem Lam1.outer (h : Lam1 H P ps pos q c' H1) (hP : H P = some (.tbl ps)) (ht : TriplesOk ps.toList) (ha : ∀ (pos : Pos) (cv : Value), codeAmong pos ps.toList = some cv → ∃ c, cv = .ref c ∧ CodeUp q q2 P H c) : Tab2 q q2 P H1 ∧ CodeUp q q2 P H1 c' := by
  cases h with
  | old ho =>
    obtain ⟨c, e, g⟩ := ha pos _ ho
    cases e
    exact ⟨⟨ps, hP, ht, ha⟩, g⟩
  | new T hn nT nc ne =>
    have PT : P ≠ T := ne_of_none hP nT
    have PC : P ≠ c' := ne_of_none hP nc
    have ex := coded_ext (q := q) (qs := ps ++ #[rawInt pos.line, rawInt pos.col, .ref c']) hP nT nc
    have me : CodeUp q q2 P (coded H P (ps ++ #[rawInt pos.line, rawInt pos.col, .ref c']) T c' q) c' := ⟨T, coded_c, Ne.symm PT, .nil (coded_T ne)⟩
    refine ⟨⟨_, coded_P PC PT, by rw [snoc_list]; exact PySem.TriplesOk_snoc _ _ _ _ ht, fun p cv hc => ?_⟩, me⟩
    rw [snoc_list] at hc
    rcases among_app _ ht hc with z | z
    · obtain ⟨c, e, U, h1, h2, ps2, h3, h4, h5⟩ := ha p cv z
      have hU : coded H P (ps ++ #[rawInt pos.line, rawInt pos.col, .ref c']) T c' q U = some (.tbl ps2) := by
        rw [coded_at (ne_of_none h3 nc) (ne_of_none h3 nT) h2]
        exact h3
      exact ⟨c, e, U, ex _ _ h1 codeX_ne, h2, ps2, hU, h4, fun p cv hc => let ⟨c, a, b⟩ := h5 p cv hc; ⟨c, a, b.extN ex⟩⟩
    · exact ⟨c', z, me⟩
/-- a lambda of a lambda, made from the table at U -/
theorem Lam1.inner {U : Addr} {us : Array Value} (h : Lam1 H U us pos q2 c' H1) (hU : H U = some (.tbl us)) (ht : TriplesOk us.toList) (ha : ∀ (pos : Pos) (cv : Value), codeAmong pos us.toList = some cv → ∃ c, cv = .ref c ∧ CodeIn q2 H c) (hne : U ≠ P) (t : Tab2 q q2 P H) : Tab2 q q2 P H1 ∧ CodeIn q2 H1 c' := by
  cases h with
  | old ho =>
    obtain ⟨c, e, g⟩ := ha pos _ ho
    cases e
    exact ⟨t, g⟩
  | new T hn nT nc ne =>
    have UT : U ≠ T := ne_of_none hU nT
    have UC : U ≠ c' := ne_of_none hU nc
    have ex := coded_ext (q := q2) (qs := us ++ #[rawInt pos.line, rawInt pos.col, .ref c']) hU nT nc
    have me : CodeIn q2 (coded H U (us ++ #[rawInt pos.line, rawInt pos.col, .ref c']) T c' q2) c' := ⟨T, coded_c⟩
    refine ⟨?_, me⟩
    obtain ⟨ps, hP, hp, hc⟩ := t
    refine ⟨ps, by rw [coded_at (ne_of_none hP nc) (ne_of_none hP nT) (Ne.symm hne)]; exact hP, hp, fun p cv hq => ?_⟩
    obtain ⟨c, e, V, h1, h2, vs, h3, h4, h5⟩ := hc p cv hq
    refine ⟨c, e, V, ex _ _ h1 codeX_ne, h2, ?_⟩
    by_cases hV : V = U
    · subst hV
      rw [h3] at hU
      cases hU
      refine ⟨_, coded_P UC UT, by rw [snoc_list]; exact PySem.TriplesOk_snoc _ _ _ _ h4, fun p cv hc => ?_⟩
      rw [snoc_list] at hc
      rcases among_app _ h4 hc with z | z
      · obtain ⟨d, a, b⟩ := h5 p cv z
        exact ⟨d, a, b.extN ex⟩
      · exact ⟨c', z, me⟩
    · exact ⟨vs, by rw [coded_at (ne_of_none h3 nc) (ne_of_none h3 nT) hV]; exact h3, h4, fun p cv hc => let ⟨d, a, b⟩ := h5 p cv hc; ⟨d, a, b.extN ex⟩⟩
end
end K73
set_option maxRecDepth 100000
set_option maxHeartbeats 4000000
namespace K73
open Enc (At enc)
open PySem PySem.Spec PyProof.Rows L2 Evl LamX PySem.Calls
open PySem.W (CodeHd tabObj)
/-! ### a lambda's call in the def that got it -/
/-- the context of the def x that got the lambda -/
abbrev gcx (X : Cx) (Ng : List Str) (x : Str) (sg : Scope) (g : Addr) (cdg : Value) (s : Shared) (H : Hp) : Cx := cxOf C8.CX0 X.prog X.w X.K X.mg X.base Ng x sg g cdg X.A X.stack s H C8.E0
/-- the object of a lambda at f -/
abbrev LamO (X : Cx) (h : Heap) (f c' : Addr) (pm ctv : Value) (params : Arguments) (body : Expr) (scope : Scope) : Prop := h.get? f = some (PySem.W.kla_obj "<lambda>" (X.env.qual ++ "<lambda>") params body scope (cloFrom X.env.cells scope.names []) pm c' ctv)
section
variable {X : Cx} {pins : List (Addr × Obj)} {σ : L2.St} {H : Hp} {s : Shared} {Ng : List Str} {x : Str} {sg : Scope} {g f c' : Addr} {cdg pm ctv : Value} {params : Arguments} {body : Expr} {scope : Scope} {k i : Nat} {a : Str} {pn : List (Addr × Obj)} {xe : Value → Shared → Prop} {W : WX} {E : XK} {tb : TE} {p1 p2 : Pos}
theorem pe_actX (I : Inv X pins σ H s) (L : LamS X.env.scope scope) (hf : LamO X s.heap f c' pm ctv params body scope) (hfn : H f = none) (hfr : f ∉ frs X.stack)
    (hbind : bindArgs (PySem.W.kla_fn "<lambda>" (X.env.qual ++ "<lambda>") params body scope (cloFrom X.env.cells scope.names []) pm (.ref c') ctv) ⟨[], []⟩ = pure [])
    (tk : Takes ((gcx X Ng x sg g cdg s H).tr pn xe) W) (hW : ∀ cls d (σ' : L2.St) H', σ'.length = Ng.length → E cls d H' → W cls d σ' H') (hr : Room (k + 1) (X.A.deeper (envOfC x sg s.heap.objs.size g cdg)))
    (hbody : ∀ (A : Around) (outer : List Env) (s : Shared) (H : Hp), Room k (A.deeper (lamEnv X scope s.heap.objs.size f c')) → PE (lamCx X A outer s H E scope f c') body tb)
    (hN : Ng[i]? = some a) (hv : Vis sg a) (hd : (a == ("__debug__" : Str)) = false) (hcd : (a == ("__classdict__" : Str)) = false) :
    PE ((gcx X Ng x sg g cdg s H).tr pn xe) (.Call (.Name a p1) [] [] p2) (fun σZ HZ Q => σZ[i]? = some (some (.ref f)) ∧ CodeIn (X.env.qual ++ "<lambda>") HZ c' ∧ tb σ HZ Q) := by
  constructor
  rintro pinsZ sZ σZ HZ Q IZ ⟨hs, ⟨T, hT⟩, ht⟩
  refine wpAny_Call_Name_kw (thn ((pe_var (pos := p1) (i := i) hN hv hd hcd).run pinsZ sZ σZ HZ (fun v H1 => v = .ref f ∧ H1 = HZ) IZ ⟨.ref f, hs, rfl, rfl⟩) ?_)
  rintro u s1 ⟨v, H1, I1, r1, rfl, rfl⟩
  obtain rfl : u = Value.ref f := r1
  have at1 := I1.base.keep f _ hf hfn hfr fun z => nomatch (show f ∈ ([] : List Addr) from z)
  have un : Un (frs X.stack) [] H H1 s.heap s1.heap := I1.base
  refine PySem.W.callWith_F0 ⟨_, _, _, _, at1⟩ (wpAny_call (codeAny_mono (R := CR (L2.CX X.prog X.w) (envOfC x sg s.heap.objs.size g cdg :: X.stack) X.prog X.w H1 s1 Q E) ?_ fun r s' hq => ?_))
  · show codeAny (model X.prog X.w) (X.A.deeper (envOfC x sg s.heap.objs.size g cdg)) (.call (.ref f) ⟨[], []⟩) _ s1
    refine PySem.W.kla_callFunE hr.depth at1 rfl L.co L.gen rfl (codeX_at I1.hok hT).2 ?_
    rw [hbind]
    refine wpAny_pure (wpAny_newFunctionEnv (fun y hy => (L.own y hy).2) (fun y hy => nomatch hy) (fun h2 hns hsb => ⟨I1.nolimit.fresh _ hsb, ?_⟩) L.kind)
    have kp : ∀ b o, s1.heap.get? b = some o → h2.get? b = some o := fun b o e => hsb.extBut b o (Nat.ne_of_lt (Heap.lt_size e)) (Heap.get?_push_of_some _ e)
    have J := lam_start2 (A := X.A.deeper (envOfC x sg s.heap.objs.size g cdg)) (E := E) (f := f) (c' := c') (tk := s1.toks + ([] : List (Str × Value)).length) I L I1.env0 hr.hd un hns kp
    refine PySem.W.kla_codeExpr (wpAny_mono ((hbody _ _ s1 H1 (hr.deeper _)).run [] _ _ H1 Q J ht) ?_ fun e s' hq => hq)
    rintro v s' ⟨w', H', J', rv, q⟩
    exact ⟨w', H', J'.os, J'.bare, J'.base, J'.hok, rv, q⟩
  · match r, hq with
    | .error e, hq => exact tk e s' (XE.of_call I1 (fun cls d H' h => hW cls d σZ H' I1.len h) hq)
    | .ok (.ret u), hq => exact I1.after hq
/-! ### a lambda with one parameter, which a lambda within it captures -/
structure LamS1 (N : List Str) (sc scope : Scope) (p : Str) : Prop where
  kind : scope.kind = .function
  co : scope.isCoroutine = false
  gen : scope.isGenerator = false
  hd : ∃ r, scope.names = (p, .cell) :: r ∧ ∀ y ∈ r, y.2 ≠ .local ∧ y.2 ≠ .cell ∧ y.1 ≠ p
  free : ∀ y ∈ scope.names, y.2 = .free → sc.names.lookup y.1 = some .cell ∨ sc.names.lookup y.1 = some .free
  out : p ∉ N
def lamS1B (N : List Str) (sc scope : Scope) (p : Str) : Bool :=
  decide (scope.kind = .function) && (!scope.isCoroutine && (!scope.isGenerator && (decide (scope.names.head? = some (p, NameKind.cell)) && ((scope.names.tail.all fun y => !decide (y.2 = .local) && (!decide (y.2 = .cell) && !decide (y.1 = p))) &&
    ((scope.names.all fun y => !decide (y.2 = .free) || (decide (sc.names.lookup y.1 = some .cell) || decide (sc.names.lookup y.1 = some .free))) && !decide (p ∈ N))))))
theorem lamS1_by {N : List Str} {sc scope : Scope} {p : Str} (h : lamS1B N sc scope p = true) : LamS1 N sc scope p := by
  unfold lamS1B at h
  simp only [Bool.and_eq_true, Bool.or_eq_true, Bool.not_eq_true', decide_eq_true_eq, decide_eq_false_iff_not, List.all_eq_true] at h
  obtain ⟨h1, h2, h3, h4, h5, h6, h7⟩ := h
  refine ⟨h1, h2, h3, ?_, fun y hy e => (h6 y hy).elim (fun z => absurd e z) id, h7⟩
  cases e : scope.names with
  | nil => rw [e] at h4; cases h4
  | cons a r =>
    rw [e] at h4 h5
    cases h4
    exact ⟨r, rfl, h5⟩
theorem LamS1.has (L : LamS1 X.N X.env.scope scope a) (ok : X.Ok) : ∀ y ∈ scope.names, y.2 = .free → ∃ c, X.env.cells.lookup y.1 = some c := fun y hy e => (L.free y hy e).elim (fun k => ok.has _ (.inl k)) fun k => ok.has _ (.inr k)
abbrev lamEnv1 (X : Cx) (scope : Scope) (p : Str) (L f c' : Addr) : Env := PySem.W.envX (X.env.qual ++ "<lambda>") scope L f (.ref c') ((p, L + 1) :: cloFrom X.env.cells scope.names [])
/-- the context of its body -/
def lamCx1 (X : Cx) (A : Around) (outer : List Env) (s : Shared) (H : Hp) (E : XK) (scope : Scope) (p : Str) (f c' : Addr) : Cx where
  prog := X.prog
  w := X.w
  K := X.K
  mg := X.mg
  base := X.base
  A := A.deeper (lamEnv1 X scope p s.heap.objs.size f c')
  N := X.N ++ [p]
  s_0 := s
  H_0 := H
  env := lamEnv1 X scope p s.heap.objs.size f c'
  outer := outer
  stack := lamEnv1 X scope p s.heap.objs.size f c' :: outer
  ex := []
  fn := fun _ => false
  calm := true
  pn := []
  xe := fun e s' => wpAny (model X.prog X.w) (A.deeper (lamEnv1 X scope p s.heap.objs.size f c')) (leaving (lamEnv1 X scope p s.heap.objs.size f c') e) (fun _ s'' => L2.CX X.prog X.w outer H s E e s'') (fun e' s'' => L2.CX X.prog X.w outer H s E e' s'') s'
theorem cells_none : ∀ {r : List (Str × NameKind)} {n : Nat} {acc : List (Str × Addr)}, (∀ y ∈ r, y.2 ≠ .cell) → cellsFrom n r acc = acc
  | [], _, _, _ => rfl
  | (y, kd) :: r, n, acc, h => by
    unfold cellsFrom
    rw [if_neg (by simpa using h (y, kd) List.mem_cons_self)]
    exact cells_none fun z hz => h z (List.mem_cons_of_mem _ hz)
theorem push_none : ∀ {r : List (Str × NameKind)} {h : Heap}, (∀ y ∈ r, y.2 ≠ .cell) → pushCells h r = h
  | [], _, _ => rfl
  | (y, kd) :: r, h, hh => by
    unfold pushCells
    rw [if_neg (by simpa using hh (y, kd) List.mem_cons_self)]
    exact push_none fun z hz => hh z (List.mem_cons_of_mem _ hz)
theorem env_one {M : Model} {A : Around} {E' : Value → Shared → Prop} {globals : Addr} {closure : List (Str × Addr)} {p : Str} {u : Value} {qual : Str} {func : Option Addr} {code : Value} {builtins : Addr} {Q : Env → Shared → Prop} {r : List (Str × NameKind)} (hk : scope.kind = .function) (hn : scope.names = (p, .cell) :: r) (hr : ∀ y ∈ r, y.2 ≠ .cell)
    (h : ∀ (h' : Heap) (tk : Nat), h'.Ns s.heap.objs.size (fun _ => none) → h'.IsCell (s.heap.objs.size + 1) (some u) → (∀ b o, s.heap.get? b = some o → h'.get? b = some o) →
      Q (newEnv scope s.heap.objs.size globals ((p, s.heap.objs.size + 1) :: closure) qual func code none builtins) { s with heap := h', toks := tk }) :
    wpAny M A (newFunctionEnv scope globals closure [(p, u)] qual func code none builtins) Q E' s := by
  simp only [newFunctionEnv, Option.isSome_none, Bool.false_eq_true, if_false]
  refine wpAny_bind (wpAny_alloc (wpAny_bind (wpAny_layCells _ (fun n kd cs => by cases e : kd == NameKind.cell <;> simp [e]) scope.names closure _ _ ?_)))
  have sz : (s.heap.push { cls := .type "frame", data := .dict #[] }).objs.size = s.heap.objs.size + 1 := Heap.size_push ..
  have e1 : cellsFrom (s.heap.push { cls := .type "frame", data := .dict #[] }).objs.size scope.names closure = (p, s.heap.objs.size + 1) :: closure := by
    rw [hn, sz]
    unfold cellsFrom
    rw [if_pos (show (NameKind.cell == NameKind.cell) = true by decide)]
    exact cells_none hr
  have e2 : pushCells (s.heap.push { cls := .type "frame", data := .dict #[] }) scope.names = (s.heap.push { cls := .type "frame", data := .dict #[] }).push { cls := .type "cell", data := .cell none } := by
    rw [hn]
    unfold pushCells
    rw [if_pos (show (NameKind.cell == NameKind.cell) = true by decide)]
    exact push_none hr
  have hc : ((s.heap.push { cls := .type "frame", data := .dict #[] }).push { cls := .type "cell", data := .cell none }).IsCell (s.heap.objs.size + 1) none := ⟨_, by rw [← sz]; exact Heap.get?_push_size _ rfl, rfl⟩
  simp only [e1, e2]
  rw [List.forIn_cons]
  refine wpAny_bind (wpAny_bind (wpAny_bind (wpAny_storeName_cell (env := newEnv scope s.heap.objs.size globals ((p, s.heap.objs.size + 1) :: closure) qual func code none builtins) (c := s.heap.objs.size + 1) hk (by show scope.names.lookup p = _; rw [hn]; simp [List.lookup]) (by show List.lookup p _ = _; simp [newEnv, List.lookup]) hc fun h' hc' hs' => wpAny_pure ?_)))
  have ne : s.heap.objs.size + 1 ≠ s.heap.objs.size := Nat.succ_ne_self _
  show wpAny _ _ (forIn [] _ _) _ _ _
  rw [List.forIn_nil]
  refine wpAny_pure (wpAny_pure (h h' _ ?_ hc' fun b o e => hs'.extBut b o (Nat.ne_of_lt (Nat.lt_succ_of_lt (Heap.lt_size e))) (Heap.get?_push_of_some _ (Heap.get?_push_of_some _ e))))
  exact ((Heap.Ns.new s.heap (.type "frame")).push _).sameBut hs' (Ne.symm ne)
variable {HZ : Hp} {s1 : Shared}
theorem lam_start1 {outer : List Env} {A : Around} {p : Str} {v0 : V} {u0 : Value} {h2 : Heap} {tk : Nat} (I : Inv X pins σ H s) (L : LamS1 X.N X.env.scope scope p) (e0 : Env0 X.prog X.w X.K X.mg X.base A outer s1 HZ) (hd : A.handled = none)
    (un : Un (frs X.stack) [] H HZ s.heap s1.heap) (r0 : RelV v0 u0) (hns : h2.Ns s1.heap.objs.size fun _ => none) (hc : h2.IsCell (s1.heap.objs.size + 1) (some u0)) (kp : ∀ b o, s1.heap.get? b = some o → h2.get? b = some o) :
    Inv (lamCx1 X A outer s1 HZ E scope p f c') [] (σ ++ [some v0]) HZ { s1 with heap := h2, toks := tk } := by
  have hfree := L.has I.ok
  obtain ⟨r, hn, hr⟩ := L.hd
  have cellIn : ∀ {c : Addr} {v : Option Value}, H c = none → s.heap.IsCell c v → s1.heap.IsCell c v := fun {c v} n ⟨o, ho, hd⟩ => by
    obtain ⟨sl, q⟩ := un.any ho n (by simp)
    exact ⟨_, q, hd⟩
  have up : ∀ {c : Addr} {v : Option Value}, s1.heap.IsCell c v → h2.IsCell c v := fun {c v} ⟨o, ho, hd⟩ => ⟨o, kp _ _ ho, hd⟩
  have cm : ∀ {y c}, (cloFrom X.env.cells scope.names []).lookup y = some c → X.env.cells.lookup y = some c := fun {y c} e => by
    rcases cloFrom_mem (PySem.mem_of_lookup e) with hm | ⟨h1, h2⟩
    · cases hm
    · obtain ⟨c1, hc⟩ := hfree _ h1 rfl
      have hc : X.env.cells.lookup y = some c1 := hc
      have e2 : c = c1 := by
        rw [h2, hc] <;> rfl
      rw [e2]
      exact hc
  have low : ∀ {y c}, X.env.cells.lookup y = some c → c < s1.heap.objs.size := fun {y c} e => by
    obtain ⟨w', z⟩ := I.cell y c e
    exact (cellIn (I.freeC y c e) z).lt
  have look : ∀ {y}, scope.names.lookup y = some .free → ∃ c, (cloFrom X.env.cells scope.names []).lookup y = some c := fun {y} hl => by
    have hy : (y, NameKind.free) ∈ scope.names := PySem.mem_of_lookup hl
    exact mem_lookup (cloFrom_has (cells := X.env.cells) (acc := []) hy)
  have kindP : scope.names.lookup p = some .cell := by rw [hn]; simp [List.lookup]
  have nameC : ∀ {y}, scope.names.lookup y = some .cell → y = p := fun {y} e => by
    have hm := PySem.mem_of_lookup e
    rw [hn] at hm
    rcases List.mem_cons.mp hm with z | z
    · exact congrArg Prod.fst z
    · exact absurd rfl (hr _ z).2.1
  have noL : ∀ {y}, scope.names.lookup y ≠ some .local := fun {y} e => by
    have hm := PySem.mem_of_lookup e
    rw [hn] at hm
    rcases List.mem_cons.mp hm with z | z
    · exact absurd (congrArg Prod.snd z) (by intro q; cases q)
    · exact absurd rfl (hr _ z).1
  have cP : ((p, s1.heap.objs.size + 1) :: cloFrom X.env.cells scope.names []).lookup p = some (s1.heap.objs.size + 1) := by simp [List.lookup]
  have cO : ∀ {y}, y ≠ p → ((p, s1.heap.objs.size + 1) :: cloFrom X.env.cells scope.names []).lookup y = (cloFrom X.env.cells scope.names []).lookup y := fun {y} n => by
    have : (y == p) = false := by simpa using n
    rw [List.lookup_cons, this]
  have each : ∀ {y c}, ((p, s1.heap.objs.size + 1) :: cloFrom X.env.cells scope.names []).lookup y = some c → (y = p ∧ c = s1.heap.objs.size + 1) ∨ (y ≠ p ∧ X.env.cells.lookup y = some c) := fun {y c} e => by
    by_cases n : y = p
    · rw [n, cP] at e
      exact .inl ⟨n, (Option.some.inj e).symm⟩
    · rw [cO n] at e
      exact .inr ⟨n, cm e⟩
  have noA : ∀ b : Addr, b ∉ (lamCx1 X A outer s1 HZ E scope p f c').ex := fun b z => absurd (show b ∈ ([] : List Addr) from z) (by simp)
  refine ⟨⟨e0.mod, L.kind, rfl, rfl, Nat.le_refl _, fun y z c e1 e2 => ?_, fun y hy => ?_, fun y c z _ => absurd (show false = true from z) Bool.false_ne_true, fun _ => hd, Around.frames_deeper e0.frames, .inr ⟨rfl, rfl⟩, fun b z => absurd z (noA b), e0.bs, e0.bsz, fun b _ _ => noA b,
      fun b z => absurd z (noA b), e0.funs, e0.frf⟩,
    rfl, e0.bare, Un.kept kp, ⟨_, hns, fun i y v e1 e2 e3 => ?_⟩, fun y c e => ?_, e0.hok.fresh (Nat.le_refl _), fun y c e => ?_, fun q hq => absurd (show q ∈ ([] : List (Addr × Obj)) ++ [] from hq) (by simp), e0.hok.kept kp, ?_⟩
  · rcases each e1 with ⟨a1, a2⟩ | ⟨a1, a2⟩ <;> rcases each e2 with ⟨b1, b2⟩ | ⟨b1, b2⟩
    · rw [a1, b1]
    · exact absurd (low b2) (by rw [a2]; exact Nat.not_lt.mpr (Nat.le_succ _))
    · exact absurd (low a2) (by rw [b2]; exact Nat.not_lt.mpr (Nat.le_succ _))
    · exact I.ok.inj y z c a2 b2
  · have hy : scope.names.lookup y = some .cell ∨ scope.names.lookup y = some .free := hy
    rcases hy with hy | hy
    · exact ⟨_, by rw [nameC hy]; exact cP⟩
    · obtain ⟨c, e⟩ := look hy
      refine ⟨c, ?_⟩
      by_cases n : y = p
      · rw [n, kindP] at hy
        cases hy
      · exact (cO n).trans e
  · have e1 : (X.N ++ [p])[i]? = some y := e1
    have e3 : Vis scope y := e3
    have nl : σ.length = X.N.length := I.len
    by_cases hi : i < X.N.length
    · rw [List.getElem?_append_left hi] at e1
      rw [List.getElem?_append_left (by omega)] at e2
      have np : y ≠ p := fun z => L.out (z ▸ List.mem_of_getElem? e1)
      rcases e3 with k | k | k
      · exact absurd k noL
      · exact absurd (nameC k) np
      · obtain ⟨m, hm, hl⟩ := I.loc
        have fr := L.free _ (PySem.mem_of_lookup k) rfl
        obtain ⟨w', r, q⟩ := hl i y v e1 e2 (fr.elim (fun k => .inr (.inl k)) fun k => .inr (.inr k))
        obtain ⟨c2, hc2⟩ := look k
        refine ⟨w', r, .inr ⟨.inr k, c2, (cO np).trans hc2, ?_⟩⟩
        have c1 := cm hc2
        rcases q with ⟨k', _⟩ | ⟨_, c3, e', z⟩
        · have k' : X.env.scope.names.lookup y = some .local := k'
          rcases fr with k2 | k2 <;> rw [show X.env.scope.names.lookup y = _ from k2] at k' <;> cases k'
        · rw [c1] at e'
          cases e'
          exact up (cellIn (I.freeC y _ c1) z)
    · rw [List.getElem?_append_right (by omega)] at e1 e2
      have z : i - X.N.length = 0 := by
        cases ei : i - X.N.length with
        | zero => rfl
        | succ j => rw [ei] at e1; simp at e1
      rw [z] at e1
      rw [nl, z] at e2
      cases e1
      cases e2
      exact ⟨u0, r0, .inr ⟨.inl kindP, _, cP, hc⟩⟩
  · rcases each e with ⟨a1, a2⟩ | ⟨a1, a2⟩
    · rw [a2]
      exact ⟨_, hc⟩
    · obtain ⟨w', z⟩ := I.cell y c a2
      exact ⟨w', up (cellIn (I.freeC y c a2) z)⟩
  · rcases each e with ⟨a1, a2⟩ | ⟨a1, a2⟩
    · rw [a2]
      exact e0.hok.fresh (Nat.le_succ _)
    · obtain ⟨v, o, ho, hd⟩ := I.cell y c a2
      exact un.free c o ho (I.freeC y c a2) (by simp)
  · show (σ ++ [some v0]).length = (X.N ++ [p]).length
    rw [List.length_append, List.length_append, I.len]
    rfl
end
section
variable {X : Cx} {pins : List (Addr × Obj)} {σ : L2.St} {H : Hp} {s : Shared} {Ng : List Str} {x : Str} {sg : Scope} {g f c' : Addr} {cdg pm ctv : Value} {params : Arguments} {body : Expr} {scope : Scope} {k i : Nat} {a p : Str} {tb : TE} {p1 p2 : Pos}
theorem pe_actX1 {e : Expr} {es : List Expr} {ta : TA} (I : Inv X pins σ H s) (L : LamS1 X.N X.env.scope scope p) (hf : LamO X s.heap f c' pm ctv params body scope) (hfn : H f = none) (hfr : f ∉ frs X.stack)
    (hbind : ∀ u, bindArgs (PySem.W.kla_fn "<lambda>" (X.env.qual ++ "<lambda>") params body scope (cloFrom X.env.cells scope.names []) pm (.ref c') ctv) ⟨[u], []⟩ = pure [(p, u)]) (hr : Room (k + 1) (X.A.deeper (envOfC x sg s.heap.objs.size g cdg)))
    (hbody : ∀ (A : Around) (outer : List Env) (s : Shared) (H : Hp), Room k (A.deeper (lamEnv1 X scope p s.heap.objs.size f c')) → PE (lamCx1 X A outer s H C8.E0 scope p f c') body tb)
    (hN : Ng[i]? = some a) (hv : Vis sg a) (hd : (a == ("__debug__" : Str)) = false) (hcd : (a == ("__classdict__" : Str)) = false) (ha : PA (gcx X Ng x sg g cdg s H).nox (e :: es) ta)
    (he : starEach (e :: es) (gcx X Ng x sg g cdg s H).nox.env = (false, eval e (gcx X Ng x sg g cdg s H).nox.env) :: starEach es (gcx X Ng x sg g cdg s H).nox.env) (hpl : (backTo p2 (starEach es (gcx X Ng x sg g cdg s H).nox.env)).any (·.1) = false) :
    PE (gcx X Ng x sg g cdg s H).nox (.Call (.Name a p1) (e :: es) [] p2) (fun σZ HZ Q => σZ[i]? = some (some (.ref f)) ∧ ta σZ HZ fun vs H2 => ∃ v, vs = [v] ∧ CodeIn (X.env.qual ++ "<lambda>") H2 c' ∧ tb (σ ++ [some v]) H2 Q) := by
  constructor
  rintro pinsZ sZ σZ HZ Q IZ ⟨hs, ht⟩
  refine wpAny_Call_Name_kw (thn ((pe_var (pos := p1) (i := i) hN hv hd hcd).run pinsZ sZ σZ HZ (fun v H1 => v = .ref f ∧ H1 = HZ) IZ ⟨.ref f, hs, rfl, rfl⟩) ?_)
  rintro u s1 ⟨v, H1, I1, r1, rfl, rfl⟩
  obtain rfl : u = Value.ref f := r1
  have no : f ∉ ([] : List Addr) := fun z => nomatch z
  have at1 := I1.base.keep f _ hf hfn hfr no
  refine PySem.W.callWith_F (first := []) ⟨_, _, _, _, at1⟩ (thn (ha.run p2 pinsZ s1 σZ H1 _ I1 ht) ?_) he hpl
  rintro us s2 ⟨vs, H2, I2, r, v, rfl, ⟨T, hT⟩, hb⟩
  have at2 := I2.base.keep f _ hf hfn hfr no
  refine ⟨⟨_, _, _, _, at2⟩, ?_⟩
  have un : Un (frs X.stack) [] H H2 s.heap s2.heap := I2.base
  cases r with
  | @cons _ u0 _ _ r0 rr =>
    cases rr
    refine wpAny_call (codeAny_mono (R := CR (L2.CX X.prog X.w) (envOfC x sg s.heap.objs.size g cdg :: X.stack) X.prog X.w H2 s2 Q C8.E0) ?_ fun r s' hq => ?_)
    · show codeAny (model X.prog X.w) (X.A.deeper (envOfC x sg s.heap.objs.size g cdg)) (.call (.ref f) ⟨[u0], []⟩) _ s2
      obtain ⟨r, hn, hr2⟩ := L.hd
      refine PySem.W.kla_callFunE hr.depth at2 rfl L.co L.gen rfl (codeX_at I2.hok hT).2 ?_
      rw [hbind]
      refine wpAny_pure (env_one L.kind hn (fun y hy => (hr2 y hy).2.1) fun h2 tk hns hc kp => ⟨I2.nolimit.keeps kp, ?_⟩)
      have J := lam_start1 (A := X.A.deeper (envOfC x sg s.heap.objs.size g cdg)) (E := C8.E0) (f := f) (c' := c') (tk := tk) I L I2.env0 hr.hd un r0 hns hc kp
      refine PySem.W.kla_codeExpr (wpAny_mono ((hbody _ _ s2 H2 (hr.deeper _)).run [] _ _ H2 Q J hb) ?_ fun e s' hq => hq)
      rintro v s' ⟨w', H', J', rv, q⟩
      exact ⟨w', H', J'.os, J'.bare, J'.base, J'.hok, rv, q⟩
    · match r, hq with
      | .error e, hq => exact passes_call (X := (gcx X Ng x sg g cdg s H).nox) (E := C8.E0) LamX.takes0 (fun cls d σ' H' z => z) pinsZ σZ H2 s2 e s' I2 hq
      | .ok (.ret u), hq => exact I2.after hq
end
/-! ### the defs that get a lambda, and their calls -/
/-- the body of the def x calls what it got, without arguments; TT: what it makes of the lambda's reading -/
def GivesX (X : Cx) (Ng : List Str) (x : Str) (sg : Scope) (bg : List Stmt) (a q : Str) (TT : (XK → Hp → VK → Prop) → Hp → VK → Prop) : Prop :=
  ∀ (g : Addr) (cdg : Value) (f c' : Addr) (s : Shared) (H : Hp) (Q : VK) (tl : XK → Hp → VK → Prop),
    (∀ (W : WX) (pn : List (Addr × Obj)) (xe : Value → Shared → Prop) (E : XK) (p1 p2 : Pos), Takes ((gcx X Ng x sg g cdg s H).tr pn xe) W → (∀ cls d (σ' : L2.St) H', σ'.length = Ng.length → E cls d H' → W cls d σ' H') →
      PE ((gcx X Ng x sg g cdg s H).tr pn xe) (.Call (.Name a p1) [] [] p2) (fun σZ HZ Q => σZ[0]? = some (some (.ref f)) ∧ CodeIn q HZ c' ∧ tl E HZ Q)) →
    CodeIn q H c' → TT tl H Q → ∃ t, PSs (gcx X Ng x sg g cdg s H).nox bg t ∧ t { nx := fun _ H' => Q .non H', rt := Q } (L2.start Ng [.ref f]) H
/-- .. with one argument; nothing is let out -/
def GivesX1 (X : Cx) (Ng : List Str) (x : Str) (sg : Scope) (bg : List Stmt) (a q : Str) (TT : (V → Hp → VK → Prop) → Hp → VK → Prop) : Prop :=
  ∀ (g : Addr) (cdg : Value) (f c' : Addr) (s : Shared) (H : Hp) (Q : VK) (tl : V → Hp → VK → Prop),
    (∀ (e : Expr) (es : List Expr) (ta : TA) (p1 p2 : Pos), PA (gcx X Ng x sg g cdg s H).nox (e :: es) ta → starEach (e :: es) (gcx X Ng x sg g cdg s H).nox.env = (false, eval e (gcx X Ng x sg g cdg s H).nox.env) :: starEach es (gcx X Ng x sg g cdg s H).nox.env →
      (backTo p2 (starEach es (gcx X Ng x sg g cdg s H).nox.env)).any (·.1) = false →
      PE (gcx X Ng x sg g cdg s H).nox (.Call (.Name a p1) (e :: es) [] p2) (fun σZ HZ Q => σZ[0]? = some (some (.ref f)) ∧ ta σZ HZ fun vs H2 => ∃ v, vs = [v] ∧ CodeIn q H2 c' ∧ tl v H2 Q)) →
    CodeIn q H c' → TT tl H Q → ∃ t, PSs (gcx X Ng x sg g cdg s H).nox bg t ∧ t { nx := fun _ H' => Q .non H', rt := Q } (L2.start Ng [.ref f]) H
/-- where lambdas are made: what must hold of the tables, and what holds behind it -/
def MkX (X : Cx) (pos : Pos) (Pre : Hp → Prop) (Post : Hp → Addr → Prop) : Prop :=
  ∀ (pins : List (Addr × Obj)) (σ : L2.St) (H : Hp) (s : Shared), Inv X pins σ H s → Pre H → ∃ (c P : Addr) (ps : Array Value), X.env.code = .ref c ∧ CodeHd s.heap c P ∧ H P = some (.tbl ps) ∧ TriplesOk ps.toList ∧ s.heap.BuiltinsAt X.mg P ∧ mainGlobals ≠ P ∧
    (∀ cv, codeAmong pos ps.toList = some cv → ∃ c', cv = .ref c') ∧ ∀ c' H1, Lam1 H P ps pos (X.env.qual ++ "<lambda>") c' H1 → Post H1 c' ∧ CodeIn (X.env.qual ++ "<lambda>") H1 c'
theorem mk_outer {X : Cx} {pos : Pos} {c P : Addr} {q2 : Str} (TB : TabB X.base X.mg c P) (hcode : X.env.code = .ref c) : MkX X pos (Tab2 (X.env.qual ++ "<lambda>") q2 P) (fun H c' => Tab2 (X.env.qual ++ "<lambda>") q2 P H ∧ CodeUp (X.env.qual ++ "<lambda>") q2 P H c') := by
  rintro pins σ H s I ⟨ps, hP, ht, ha⟩
  refine ⟨c, P, ps, hcode, TB.code.keeps I.bk, hP, ht, TB.bm.keeps I.bk, TB.gP, fun cv h => ?_, fun c' H1 h => ?_⟩
  · obtain ⟨c', e, _⟩ := ha pos cv h
    exact ⟨c', e⟩
  · have z := h.outer hP ht ha
    exact ⟨z, z.2.inn⟩
theorem mk_inner {X : Cx} {pos : Pos} {c P : Addr} {q : Str} (bm : X.base.BuiltinsAt X.mg P) (hcode : X.env.code = .ref c) : MkX X pos (fun H => Tab2 q (X.env.qual ++ "<lambda>") P H ∧ CodeUp q (X.env.qual ++ "<lambda>") P H c) (fun H _ => Tab2 q (X.env.qual ++ "<lambda>") P H) := by
  rintro pins σ H s I ⟨t, T, hc, hne, ps, hT, ht, ha⟩
  obtain ⟨b, o, h1, h2, h3, h4, h5, h6⟩ := bm
  have nb : ∀ {d : Addr} {ob : Obj}, X.base.get? d = some ob → d ≠ T := fun {d ob} e z => by
    have n := (I.bs d ob e).2
    rw [z, hT] at n
    cases n
  obtain ⟨og, es, ep, hg, _⟩ := I.mod.glob
  refine ⟨c, T, ps, hcode, (codeX_at I.hok hc).1, hT, ht, ⟨b, o, h1, h2, h3, nb h5, I.bk _ _ h5, h6⟩, nb hg, fun cv h => ?_, fun c' H1 h => ?_⟩
  · obtain ⟨c', e, _⟩ := ha pos cv h
    exact ⟨c', e⟩
  · exact h.inner hT ht ha hne t
/-- x(lambda: ..) -/
def tLamX (Pre : Hp → Prop) (Post : Hp → Addr → Prop) (TT : (XK → Hp → VK → Prop) → Hp → VK → Prop) (t : Addr → XK → TE) : TE := fun σ H Q => Pre H ∧ ∀ c' H1, ExtN H H1 → Post H1 c' → TT (fun E H' Q' => t c' E σ H' Q') H1 Q
/-- x(lambda p: ..) -/
def tLamX1 (Pre : Hp → Prop) (Post : Hp → Addr → Prop) (TT : (V → Hp → VK → Prop) → Hp → VK → Prop) (t : Addr → TE) : TE := fun σ H Q => Pre H ∧ ∀ c' H1, ExtN H H1 → Post H1 c' → TT (fun v H' Q' => t c' (σ ++ [some v]) H' Q') H1 Q
section
variable {X : Cx} {Pre : Hp → Prop} {Post : Hp → Addr → Prop} {x a y : Str} {st : Stmt} {k : Nat} {Ng : List Str} {params : Arguments} {body : Expr} {scope : Scope} {p lpos pos : Pos}
theorem call_lam {pins : List (Addr × Obj)} {σ : L2.St} {H : Hp} {s : Shared} {g f : Addr} {fd : FuncData} {Q : VK} (I : Inv X pins σ H s) (F : Fun X.K x x st g fd) (hb : L2.Binds X.K fd [a] []) (Sg : FnScope Ng [a] (defScope st)) (hr : Room (k + 1) X.A)
    (h : ∀ cdv, Room k (X.A.deeper (envOfC x (defScope st) s.heap.objs.size g cdv)) → ∃ t, PSs (gcx X Ng x (defScope st) g cdv s H).nox (defBody st) t ∧ t { nx := fun _ H' => Q .non H', rt := Q } (L2.start Ng [.ref f]) H) :
    wpAny (model X.prog X.w) X.A (call (.ref g) [.ref f]) (EP X pins σ Q) X.xe s := by
  obtain ⟨oc, od, kV, doc, pm, an, cdv, ct, osl, rfl, lk, hcg⟩ := F.ex
  have rc : codeAny (model X.prog X.w) X.A (.call (.ref g) ⟨[.ref f], []⟩) (CR C8.CX0 X.stack X.prog X.w H s Q C8.E0) s := by
    refine run_ofS (N := Ng) (ps := [a]) (us := [.ref f]) (vs := [.ref f]) lk hcg Sg hr I.env0 (hb s [.ref f] I.kIn rfl) (.cons rfl .nil) rfl fun hr' => ?_
    obtain ⟨t', ht', hq'⟩ := h cdv hr'
    exact ⟨t', ht'.nox, hq'⟩
  refine wpAny_call (codeAny_mono rc fun r s2 hq => ?_)
  match r, hq with
  | .error e, hq => exact (show False from hq).elim
  | .ok (.ret u), hq => exact I.after hq
theorem pe_lamX {TT : (XK → Hp → VK → Prop) → Hp → VK → Prop} {t : Addr → XK → TE} (mk : MkX X lpos Pre Post) (D : Def X.K X.mg x st) (hb : ∀ {g fd}, Fun X.K x x st g fd → L2.Binds X.K fd [a] []) (Sg : FnScope Ng [a] (defScope st)) (hva : Vis (defScope st) a)
    (hG : GivesX X Ng x (defScope st) (defBody st) a (X.env.qual ++ "<lambda>") TT) (hr : Room (k + 2) X.A) (L : LamS X.env.scope scope) (hy : (y, NameKind.free) ∈ scope.names) (hdef : defaultsOf params X.env = ([], []))
    (hbind : ∀ (q : Str) (cl : List (Str × Addr)) (pm cv ctv : Value), bindArgs (PySem.W.kla_fn "<lambda>" q params body scope cl pm cv ctv) ⟨[], []⟩ = pure [])
    (hbody : ∀ (A : Around) (outer : List Env) (s : Shared) (H : Hp) (E : XK) (f c' : Addr), Room k (A.deeper (lamEnv X scope s.heap.objs.size f c')) → PE (lamCx X A outer s H E scope f c') body (t c' E))
    (hg : Gl X x := by rfl) (hNg : Ng[0]? = some a := by rfl) (hdb : (x == ("__debug__" : Str)) = false := by decide) (hd : (a == ("__debug__" : Str)) = false := by decide) (hcd : (a == ("__classdict__" : Str)) = false := by decide) :
    PE X (.Call (.Name x p) [.Lambda params body scope lpos] [] pos) (tLamX Pre Post TT t) := by
  constructor
  rintro pins s σ H Q I ⟨hP, h⟩
  obtain ⟨g, fd, F, hm⟩ := D
  obtain ⟨c, P, ps, hcode, C, hT, ht, bm, gP, hcr, hL⟩ := mk pins σ H s I hP
  refine wpAny_Call_Name_kw (ld_glob I hg hm (PySem.W.callWith_K (h₀ := X.base) I.ok.mod.kin F.kp ?_ (by rfl) (by rfl)) hdb)
  show wpAny _ _ (spliced ((false, eval (.Lambda params body scope lpos) X.env) :: backTo pos (starEach [] X.env))) _ _ s
  refine spliced_cons (lam_makeX I C hcode hT ht bm gP hcr hdef hy (L.has I.ok) fun f c' pm ctv H1 s' h1 I1 hf hfn hfr => spliced_nil ⟨I1.kIn, ?_⟩)
  obtain ⟨post, hco⟩ := hL c' H1 h1
  refine call_lam I1 F (hb F) Sg hr fun cdv hr' => hG g cdv f c' s' H1 Q (fun E H' Q' => t c' E σ H' Q') (fun W pn xe E p1 p2 tk hW => ?_) hco (h c' H1 (h1.extN hT) post)
  exact pe_actX (i := 0) I1 L hf hfn hfr (hbind _ _ _ _ _) tk hW hr' (fun A outer s H hr2 => hbody A outer s H E f c' hr2) hNg hva hd hcd
theorem pe_lamX1 {TT : (V → Hp → VK → Prop) → Hp → VK → Prop} {t : Addr → TE} {b : Str} (mk : MkX X lpos Pre Post) (D : Def X.K X.mg x st) (hb : ∀ {g fd}, Fun X.K x x st g fd → L2.Binds X.K fd [a] []) (Sg : FnScope Ng [a] (defScope st)) (hva : Vis (defScope st) a)
    (hG : GivesX1 X Ng x (defScope st) (defBody st) a (X.env.qual ++ "<lambda>") TT) (hr : Room (k + 2) X.A) (L : LamS1 X.N X.env.scope scope b) (hy : (y, NameKind.free) ∈ scope.names) (hdef : defaultsOf params X.env = ([], []))
    (hbind : ∀ (q : Str) (cl : List (Str × Addr)) (pm cv ctv u : Value), bindArgs (PySem.W.kla_fn "<lambda>" q params body scope cl pm cv ctv) ⟨[u], []⟩ = pure [(b, u)])
    (hbody : ∀ (A : Around) (outer : List Env) (s : Shared) (H : Hp) (f c' : Addr), Room k (A.deeper (lamEnv1 X scope b s.heap.objs.size f c')) → PE (lamCx1 X A outer s H C8.E0 scope b f c') body (t c'))
    (hg : Gl X x := by rfl) (hNg : Ng[0]? = some a := by rfl) (hdb : (x == ("__debug__" : Str)) = false := by decide) (hd : (a == ("__debug__" : Str)) = false := by decide) (hcd : (a == ("__classdict__" : Str)) = false := by decide) :
    PE X (.Call (.Name x p) [.Lambda params body scope lpos] [] pos) (tLamX1 Pre Post TT t) := by
  constructor
  rintro pins s σ H Q I ⟨hP, h⟩
  obtain ⟨g, fd, F, hm⟩ := D
  obtain ⟨c, P, ps, hcode, C, hT, ht, bm, gP, hcr, hL⟩ := mk pins σ H s I hP
  refine wpAny_Call_Name_kw (ld_glob I hg hm (PySem.W.callWith_K (h₀ := X.base) I.ok.mod.kin F.kp ?_ (by rfl) (by rfl)) hdb)
  show wpAny _ _ (spliced ((false, eval (.Lambda params body scope lpos) X.env) :: backTo pos (starEach [] X.env))) _ _ s
  refine spliced_cons (lam_makeX I C hcode hT ht bm gP hcr hdef hy (L.has I.ok) fun f c' pm ctv H1 s' h1 I1 hf hfn hfr => spliced_nil ⟨I1.kIn, ?_⟩)
  obtain ⟨post, hco⟩ := hL c' H1 h1
  refine call_lam I1 F (hb F) Sg hr fun cdv hr' => hG g cdv f c' s' H1 Q (fun v H' Q' => t c' (σ ++ [some v]) H' Q') (fun e es ta p1 p2 ha he hpl => ?_) hco (h c' H1 (h1.extN hT) post)
  exact pe_actX1 (i := 0) I1 L hf hfn hfr (fun u => hbind _ _ _ _ _ u) hr' (fun A outer s H hr2 => hbody A outer s H f c' hr2) hNg hva hd hcd ha he hpl
end
end K73
set_option maxRecDepth 100000
set_option maxHeartbeats 4000000
namespace K73
open Enc (At enc)
open PySem L2 Evl
/-- weights of the objections ps: a dict by pairs -/
def Wts (H : Hp) (v : V) (ps : List Pr) (wt : Pr → Int) : Prop := ∃ b kvs, v = .ref b ∧ H b = some (.dT kvs) ∧ kvs.length = ps.length ∧ ∀ p ∈ ps, valV kvs (kP p) = some (.int (wt p)) ∧ 1 ≤ wt p
theorem Wts.mono {H H' : Hp} {v : V} {ps : List Pr} {wt : Pr → Int} (e : Ex H H') (h : Wts H v ps wt) : Wts H' v ps wt := let ⟨b, kvs, h1, h2, h3, h4⟩ := h; ⟨b, kvs, h1, e _ _ h2, h3, h4⟩
def isWt : V → Bool
  | .int i => decide (1 ≤ i)
  | _ => false
/-- no weights of the objections ps -/
inductive BadW (H : Hp) (v : V) (ps : List Pr) : Prop
  | kind {k : KN} (h : Knd H v k) (hk : k ≠ .dct)
  | lenT {b : Addr} {kvs : List (List Key × V)} (e : v = .ref b) (h : H b = some (.dT kvs)) (hl : kvs.length ≠ ps.length)
  | lenK {b : Addr} {kvs : List (Key × V)} (e : v = .ref b) (h : H b = some (.dK kvs)) (hl : kvs.length ≠ ps.length)
  | inT {b : Addr} {kvs : List (List Key × V)} (e : v = .ref b) (h : H b = some (.dT kvs)) (hl : kvs.length = ps.length) (hk : ∀ p ∈ ps, ∀ u, valV kvs (kP p) = some u → ∃ k, Knd H u k) (hb : ∃ p ∈ ps, ∀ u, valV kvs (kP p) = some u → isWt u = false)
  | inK {b : Addr} {kvs : List (Key × V)} (e : v = .ref b) (h : H b = some (.dK kvs)) (hl : kvs.length = ps.length) (hn : ps ≠ [])
theorem BadW.mono {H H' : Hp} {v : V} {ps : List Pr} (e : Ex H H') (h : BadW H v ps) : BadW H' v ps := by
  cases h with
  | kind h hk => exact .kind (h.mono e) hk
  | lenT q h hl => exact .lenT q (e _ _ h) hl
  | lenK q h hl => exact .lenK q (e _ _ h) hl
  | inT q h hl hk hb => exact .inT q (e _ _ h) hl (fun p hp u hu => let ⟨k, z⟩ := hk p hp u hu; ⟨k, z.mono e⟩) hb
  | inK q h hl hn => exact .inK q (e _ _ h) hl hn
theorem BadW.perm {H : Hp} {v : V} {ps qs : List Pr} (p : List.Perm ps qs) (h : BadW H v ps) : BadW H v qs := by
  cases h with
  | kind h hk => exact .kind h hk
  | lenT q h hl => exact .lenT q h (by rw [← p.length_eq]; exact hl)
  | lenK q h hl => exact .lenK q h (by rw [← p.length_eq]; exact hl)
  | inT q h hl hk hb => exact .inT q h (by rw [← p.length_eq]; exact hl) (fun x hx => hk x (p.mem_iff.mpr hx)) (let ⟨x, hx, z⟩ := hb; ⟨x, p.mem_iff.mp hx, z⟩)
  | inK q h hl hn => exact .inK q h (by rw [← p.length_eq]; exact hl) fun e => hn (by rw [e] at p; exact List.perm_nil.mp p)
theorem Wts.perm {H : Hp} {v : V} {ps qs : List Pr} {wt : Pr → Int} (p : List.Perm ps qs) (h : Wts H v ps wt) : Wts H v qs wt :=
  let ⟨b, kvs, h1, h2, h3, h4⟩ := h; ⟨b, kvs, h1, h2, by rw [← p.length_eq]; exact h3, fun x hx => h4 x (p.mem_iff.mpr hx)⟩
section
variable {P : Program} {w : World} {K : PySem.W.Frag} {mg : Str → Option Value} {base : Heap} {C C_NoStatement C_BadWeights : Addr}
abbrev s_checked_weights : Stmt := top 41
theorem sc_checked_weights : FnScope ["debate", "weights", "pair"] ["debate", "weights"] (defScope s_checked_weights) := ⟨rfl, rfl, rfl, by decide +kernel, rfl, by decide +kernel, by decide +kernel⟩
def sp_checked_weights (C BW : Addr) : Sp := fun vs H Q E => ∃ (m : Addr) (ns : List Str) (ps : List Pr) (v : V), vs = [.ref m, v] ∧ Deb C H m ns ps ∧ ((∃ wt, Wts H v ps wt ∧ Q v H) ∨
  (BadW H v ps ∧ ∀ d, H d = none → E (.ref BW) (some d) (upd H d (.xd [("thing", v)]))))
theorem has_checked_weights (T : Txt K mg) (d : Def K mg "checked_weights" s_checked_weights) (d_BadWeights : HasErr P w K mg base "BadWeights" "thing" C_BadWeights) (d_is_integer : Has P w K mg base CX0 "is_integer" ["thing"] 1 sp_is_integer) (D : DTxt K mg C) :
    Has P w K mg base (L2.CX P w) "checked_weights" ["debate", "weights"] 3 (sp_checked_weights C C_BadWeights) := by
  obtain ⟨f, fd, F, m⟩ := d
  have sc := sc_checked_weights
  refine ⟨f, fd, F.okX (k := 2) sc (fun vs H Q E h => (by first | (obtain ⟨h, _⟩ := h; rw [h]; rfl) | (obtain ⟨_, h, _⟩ := h; rw [h]; rfl) | (obtain ⟨_, _, h, _⟩ := h; rw [h]; rfl) | (obtain ⟨_, _, _, h, _⟩ := h; rw [h]; rfl) | (obtain ⟨_, _, _, _, h, _⟩ := h; rw [h]; rfl) | (obtain ⟨_, _, _, _, _, h, _⟩ := h; rw [h]; rfl) | (obtain ⟨_, _, _, _, _, _, h, _⟩ := h; rw [h]; rfl) | (obtain ⟨_, _, _, _, _, _, _, h, _⟩ := h; rw [h]; rfl) | (obtain ⟨_, _, _, _, _, _, _, _, h, _⟩ := h; rw [h]; rfl) | (obtain ⟨_, _, _, _, _, _, _, _, _, h, _⟩ := h; rw [h]; rfl) | (obtain ⟨_, _, _, _, _, _, _, _, _, _, h, _⟩ := h; rw [h]; rfl))) (fun cdv A outer s H vs Q E hr h => ?_), m, F.kp, F.binds fun _ _ _ _ _ _ us hl => match us, hl with | [_, _], _ => rfl⟩
  obtain ⟨m, ns, ps, v, rfl, dm, q⟩ := h
  refine ⟨_, ((pss_cons (ps_if (PW.pt (pw_or (pt_not (pt_val (pe_callB call_is (by rfl) T.b_isinstance (by decide +kernel) (pa_cons (pv 1) (pa_cons (pe_bltn (v := .ty "dict") (by rfl) T.b_dict (by decide +kernel) rfl) pa_nil))))) (pw_or1 (pt_cmpR op_ne (pe_callB call_len_dct (by rfl) T.b_len (by decide +kernel) (pa_cons (pv 1) pa_nil)) (pe_callB (call_len_seqK K rfl) (by rfl) T.b_len (by decide +kernel) (pa_cons (pe_fldK K rfl (pv 0) rfl) pa_nil)) (nomark _)))))
      (pss_one (ps_raiseX d_BadWeights (hr.mono (by decide)) (takes_of rfl rfl rfl rfl) (by exact (pa_cons (pv 1) pa_nil))))
      pss_nil)
    (pss_cons (ps_for (passes_of rfl) rfl (pi_listK K rfl (pe_fldK K rfl (pv 0) rfl)) (pg_name (i := 2) sc.nd rfl (by first | exact Or.inl rfl | exact Or.inr rfl))
      (pss_one (ps_if (PW.pt (pw_or (pt_cmp (pc_dnotinX (hu_of hr) (pv 2) (pv 1)) (by rfl)) (pw_or (pt_not (pt_val (pe_has d_is_integer (hr.mono (by decide)) pass0 (by exact (pa_cons (pe_dget (hu_of hr) (pv 1) (pv 2) (fun _ _ => rfl)) pa_nil))))) (pw_or1 (pt_cmpR op_lt (pe_dget (hu_of hr) (pv 1) (pv 2) (fun _ _ => rfl)) pe_int (nomark _))))))
        (pss_one (ps_raiseX d_BadWeights (hr.mono (by decide)) (takes_of rfl rfl rfl rfl) (by exact (pa_cons (pv 1) pa_nil))))
        pss_nil)))
    (pss_one (ps_ret (pv 1)))))), ?_⟩
  obtain ⟨dx, l1, l2, d1, d2, a1, a2, ws, hm, h1, h2, hW, h3, h4, h5, h6⟩ := dm.ex
  have wl := hW.length
  rcases q with ⟨wt, ⟨b, kvs, rfl, hb, hl, hw⟩, q⟩ | ⟨bad, q⟩
  · refine ⟨_, rfl, _, .dct, .dct, rfl, by decide, .dT hb, _, rfl, iteF ⟨_, rfl, b, _, rfl, Or.inr ⟨kvs, hb, rfl⟩, _, rfl, m, C, dx, _, .ref l2, rfl, hm, D.cl, D.nO, look_O _ _ _ _, l2, ws, rfl, Or.inl (SqL.of h2), rfl, _, rfl, iteND (by rw [hl, wl]) ?_⟩⟩
    refine ⟨_, rfl, m, C, dx, _, .ref l2, rfl, hm, D.cl, D.nO, look_O _ _ _ _, l2, rfl, ⟨_, SqL.of h2⟩, forG ps.length (fun i σ H' => (∃ u, σ = [some (.ref m), some (.ref b), u]) ∧ H' = H) ⟨⟨_, rfl⟩, rfl⟩ (fun i σ H' hi ⟨_, e⟩ => ⟨_, ws[i], SqL.of (show H' l2 = some (.lst ws) from e.symm ▸ h2), List.getElem?_eq_getElem (by omega)⟩) (fun σ H' ⟨_, e⟩ => ⟨_, SqL.of (show H' l2 = some (.lst ws) from e.symm ▸ h2), by omega⟩) ?_ ?_⟩
    · rintro i σ H' x H2 hi ⟨⟨u, rfl⟩, rfl⟩ ⟨rfl, hx⟩
      obtain ⟨p, hp, hat⟩ := Paired.get hW (hx _ (SqL.of h2))
      obtain ⟨T', rfl, hT⟩ := pr_ref hat
      obtain ⟨hv, h1'⟩ := hw p (List.mem_of_getElem? hp)
      have g : DGet H2 b (.ref T') (some (.int (wt p))) := by
        have := DGet.t (k := kP p) hb hT
        rw [hv] at this
        exact this
      exact ⟨_, rfl, _, rfl, Or.inl ⟨b, _, rfl, g, _, rfl, iteF ⟨_, rfl, _, rfl, b, _, rfl, g, _, .int, rfl, .int _, _, rfl, iteND rfl ⟨_, rfl, _, rfl, b, _, rfl, g, _, _, rfl, rfl, _, rfl, iteDn (by omega) ⟨⟨_, rfl⟩, rfl⟩⟩⟩⟩⟩
    · rintro σ H' ⟨⟨u, rfl⟩, rfl⟩
      exact ⟨_, rfl, q⟩
  · cases bad with
    | @kind k hk hd =>
      have hs : k.sub .dct = false := by cases k <;> first | rfl | exact absurd rfl hd
      refine ⟨_, rfl, v, k, .dct, rfl, by decide, hk, _, rfl, ?_⟩
      rw [hs]
      exact iteT ⟨_, rfl, err_ok q⟩
    | @lenT b kvs e hb hl =>
      subst e
      exact ⟨_, rfl, _, .dct, .dct, rfl, by decide, .dT hb, _, rfl, iteF ⟨_, rfl, b, _, rfl, Or.inr ⟨kvs, hb, rfl⟩, _, rfl, m, C, dx, _, .ref l2, rfl, hm, D.cl, D.nO, look_O _ _ _ _, l2, ws, rfl, Or.inl (SqL.of h2), rfl, _, rfl, iteNDn (fun h => hl (by have := V.int.inj h; omega)) ⟨_, rfl, err_ok q⟩⟩⟩
    | @lenK b kvs e hb hl =>
      subst e
      exact ⟨_, rfl, _, .dct, .dct, rfl, by decide, .dK hb, _, rfl, iteF ⟨_, rfl, b, _, rfl, Or.inl ⟨kvs, hb, rfl⟩, _, rfl, m, C, dx, _, .ref l2, rfl, hm, D.cl, D.nO, look_O _ _ _ _, l2, ws, rfl, Or.inl (SqL.of h2), rfl, _, rfl, iteNDn (fun h => hl (by have := V.int.inj h; omega)) ⟨_, rfl, err_ok q⟩⟩⟩
    | @inT b kvs e hb hl hk hbad =>
      subst e
      refine ⟨_, rfl, _, .dct, .dct, rfl, by decide, .dT hb, _, rfl, iteF ⟨_, rfl, b, _, rfl, Or.inr ⟨kvs, hb, rfl⟩, _, rfl, m, C, dx, _, .ref l2, rfl, hm, D.cl, D.nO, look_O _ _ _ _, l2, ws, rfl, Or.inl (SqL.of h2), rfl, _, rfl, iteND (by rw [hl, wl]) ?_⟩⟩
      refine ⟨_, rfl, m, C, dx, _, .ref l2, rfl, hm, D.cl, D.nO, look_O _ _ _ _, l2, rfl, ⟨_, SqL.of h2⟩, forG ps.length (fun i σ H' => (∃ u, σ = [some (.ref m), some (.ref b), u]) ∧ H' = H ∧ ∀ p ∈ ps.take i, ∃ u, valV kvs (kP p) = some u ∧ isWt u = true) ⟨⟨_, rfl⟩, rfl, fun p hp => by simp at hp⟩ (fun i σ H' hi ⟨_, e, _⟩ => ⟨_, ws[i], SqL.of (show H' l2 = some (.lst ws) from e.symm ▸ h2), List.getElem?_eq_getElem (by omega)⟩) (fun σ H' ⟨_, e, _⟩ => ⟨_, SqL.of (show H' l2 = some (.lst ws) from e.symm ▸ h2), by omega⟩) ?_ ?_⟩
      · rintro i σ H' x H2 hi ⟨⟨u, rfl⟩, rfl, hall⟩ ⟨rfl, hx⟩
        obtain ⟨p, hp, hat⟩ := Paired.get hW (hx _ (SqL.of h2))
        obtain ⟨T', rfl, hT⟩ := pr_ref hat
        have g := DGet.t (k := kP p) hb hT
        cases hv : valV kvs (kP p) with
        | none =>
          rw [hv] at g
          exact ⟨_, rfl, _, rfl, Or.inl ⟨b, _, rfl, g, _, rfl, iteT ⟨_, rfl, err_ok q⟩⟩⟩
        | some y =>
          rw [hv] at g
          obtain ⟨k, hky⟩ := hk p (List.mem_of_getElem? hp) y hv
          by_cases ki : k = .int
          · subst ki
            cases hky with
            | int z =>
              refine ⟨_, rfl, _, rfl, Or.inl ⟨b, _, rfl, g, _, rfl, iteF ⟨_, rfl, _, rfl, b, _, rfl, g, _, .int, rfl, .int _, _, rfl, iteND rfl ⟨_, rfl, _, rfl, b, _, rfl, g, _, _, rfl, rfl, _, rfl, ?_⟩⟩⟩⟩
              by_cases hz : z < 1
              · exact iteD hz ⟨_, rfl, err_ok q⟩
              · refine iteDn hz ⟨⟨_, rfl⟩, rfl, fun p' hp' => ?_⟩
                rw [take_more hp] at hp'
                rcases List.mem_append.mp hp' with h | h
                · exact hall p' h
                · rw [List.mem_singleton.mp h]
                  exact ⟨_, hv, decide_eq_true (by omega)⟩
          · exact ⟨_, rfl, _, rfl, Or.inl ⟨b, _, rfl, g, _, rfl, iteF ⟨_, rfl, _, rfl, b, _, rfl, g, _, k, rfl, hky, _, rfl, iteNDn ki ⟨_, rfl, err_ok q⟩⟩⟩⟩
      · rintro σ H' ⟨_, _, hall⟩
        rw [List.take_length] at hall
        obtain ⟨p, hp, hb⟩ := hbad
        obtain ⟨u, h1, h2⟩ := hall p hp
        rw [hb u h1] at h2
        cases h2
    | @inK b kvs e hb hl hne =>
      subst e
      refine ⟨_, rfl, _, .dct, .dct, rfl, by decide, .dK hb, _, rfl, iteF ⟨_, rfl, b, _, rfl, Or.inl ⟨kvs, hb, rfl⟩, _, rfl, m, C, dx, _, .ref l2, rfl, hm, D.cl, D.nO, look_O _ _ _ _, l2, ws, rfl, Or.inl (SqL.of h2), rfl, _, rfl, iteND (by rw [hl, wl]) ?_⟩⟩
      refine ⟨_, rfl, m, C, dx, _, .ref l2, rfl, hm, D.cl, D.nO, look_O _ _ _ _, l2, rfl, ⟨_, SqL.of h2⟩, forG ps.length (fun i σ H' => (∃ u, σ = [some (.ref m), some (.ref b), u]) ∧ H' = H ∧ i = 0) ⟨⟨_, rfl⟩, rfl, rfl⟩ (fun i σ H' hi ⟨_, e, _⟩ => ⟨_, ws[i], SqL.of (show H' l2 = some (.lst ws) from e.symm ▸ h2), List.getElem?_eq_getElem (by omega)⟩) (fun σ H' ⟨_, e, _⟩ => ⟨_, SqL.of (show H' l2 = some (.lst ws) from e.symm ▸ h2), by omega⟩) ?_ ?_⟩
      · rintro i σ H' x H2 hi ⟨⟨u, rfl⟩, rfl, hall⟩ ⟨rfl, hx⟩
        obtain ⟨p, hp, hat⟩ := Paired.get hW (hx _ (SqL.of h2))
        obtain ⟨T', rfl, hT⟩ := pr_ref hat
        exact ⟨_, rfl, _, rfl, Or.inr ⟨b, T', kvs, kP p, rfl, rfl, hb, hT, _, rfl, iteT ⟨_, rfl, err_ok q⟩⟩⟩
      · rintro σ H' ⟨_, _, h0⟩
        exact absurd (List.length_eq_zero_iff.mp h0) hne
end
end K73
set_option maxRecDepth 100000
set_option maxHeartbeats 4000000
namespace K73
open Enc (At enc)
open PySem L2 Evl
def goneW (wt : Pr → Int) (l : List Pr) : Int := (l.map wt).sum
def inL (ns : List Str) (ps : List Pr) (x : Str) (gone : List Pr) : Bool := decide (x ∈ leastL (srt ns) (srt (ps.filter fun p => !decide (p ∈ gone))))
def cheapStep (wt : Pr → Int) (ok : List Pr → Bool) (f : Option (Int × List Pr)) (l : List Pr) : Option (Int × List Pr) := match f with
  | none => if ok l = true then some (goneW wt l, l) else none
  | some (w, g) => if goneW wt l < w then (if ok l = true then some (goneW wt l, l) else some (w, g)) else some (w, g)
def cheapF (wt : Pr → Int) (ok : List Pr → Bool) (lists : List (List Pr)) : Option (Int × List Pr) := lists.foldl (cheapStep wt ok) none
theorem cheapF_snoc (wt : Pr → Int) (ok : List Pr → Bool) (ls : List (List Pr)) (l : List Pr) : cheapF wt ok (ls ++ [l]) = cheapStep wt ok (cheapF wt ok ls) l := by
  unfold cheapF
  rw [List.foldl_append]
  rfl
/-- what a search tells: None, or a new pair of a weight and a list new since H -/
def Told (H H' : Hp) (v : V) : Option (Int × List Pr) → Prop
  | none => v = .non
  | some (i, g) => ∃ t l vs, v = .ref t ∧ H' t = some (.tup [.int i, .ref l]) ∧ H' l = some (.lst vs) ∧ Each H' vs g ∧ H l = none
theorem Told.mono {H H1 H2 : Hp} {v : V} {r : Option (Int × List Pr)} (e : Ex H1 H2) (h : Told H H1 v r) : Told H H2 v r := by
  cases r with
  | none => exact h
  | some p => obtain ⟨t, l, vs, h1, h2, h3, h4, h5⟩ := h; exact ⟨t, l, vs, h1, e _ _ h2, e _ _ h3, h4.mono e, h5⟩
theorem Told.back {H0 H H1 : Hp} {v : V} {r : Option (Int × List Pr)} (e : Ex H0 H) (h : Told H H1 v r) : Told H0 H1 v r := by
  cases r with
  | none => exact h
  | some p => obtain ⟨t, l, vs, h1, h2, h3, h4, h5⟩ := h; exact ⟨t, l, vs, h1, h2, h3, h4, fresh_back e h5⟩
/-- whole numbers as they stand -/
def InR : Rel Int := fun _ v i => v = .int i
theorem in_stays : Stays InR := ⟨fun _ _ _ _ _ h => h⟩
theorem ints_eq {H : Hp} : ∀ {vs : List V} {xs : List Int}, Paired (InR H) vs xs → vs = xs.map V.int
  | _, _, .nil => rfl
  | _, _, .cons h t => by
    have h1 : _ = _ := h
    rw [h1, ints_eq t]; rfl
section
variable {P : Program} {w : World} {K : PySem.W.Frag} {mg : Str → Option Value} {base : Heap} {C C_NoStatement C_BadWeights : Addr}
/-- sum([weights[pair] for pair in l]) -/
theorem wsum_go {H1 : Hp} {b l D : Addr} {kvs : List (List Key × V)} {vs : List V} {g : List Pr} {wt : Pr → Int} {tg : TG} {te : TE} {ws : List Nat} {σ : L2.St} {Qd : Hp → Prop} (hl : H1 l = some (.lst vs)) (he : Each H1 vs g) (hb : H1 b = some (.dT kvs)) (hw : ∀ p ∈ g, valV kvs (kP p) = some (.int (wt p))) (hz : g.length ≤ 1000) (hD : H1 D = none)
    (ht : ∀ T H' Q, Ex H1 H' → ∀ p ∈ g, DGet H' b (.ref T) (some (.int (wt p))) → Q (.int (wt p)) H' → tg (.ref T) (wipe σ ws) H' fun σ2 H2 => wipe σ2 ws = wipe σ ws ∧ te σ2 H2 Q)
    (hd : ∀ H', Ex H1 H' → H' D = some (.lst ((g.map wt).map V.int)) → Qd H') :
    ∃ W : Nat → Nat → Hp → Prop, (∃ m, W 0 m (upd H1 D (.lst []))) ∧ ∀ i m H, W i m H →
      ((Itl K l).stop i H ∧ Qd H) ∨ ((Itl K l).go i H ∧ ∃ Nx : Hp → Prop, (∀ H', Nx H' → ∃ m', m' < m ∧ W (i + 1) m' H') ∧ ∀ x H', (Itl K l).yld i H x H' → tg x (wipe σ ws) H' fun σ2 H2 => wipe σ2 ws = wipe σ ws ∧ tYes σ2 H2 fun b H3 =>
        if b = true then te σ2 H3 fun y H4 => ∃ acc, H4 D = some (.lst acc) ∧ acc.length < sizeLine ∧ Nx (upd H4 D (.lst (acc ++ [y]))) else Nx H3) := by
  refine lcL (R := fun _ v p => At H1 v p) (S := InR) (f := fun p => some (wt p)) ⟨fun _ _ _ _ _ h => h⟩ in_stays (fun _ e => SqL.of (e _ _ hl)) he hD (by omega) (fun v p H2 e2 hv hp Kn Ky kn ky => ?_) (fun H2 md => ?_)
  · obtain ⟨T', rfl, hT⟩ := pr_ref hv
    have g := DGet.t (k := kP p) (e2 _ _ hb) (e2 _ _ hT)
    rw [hw p hp] at g
    exact ht T' H2 _ e2 p hp g (ky _ (wt p) _ (Ex.refl _) rfl fun _ _ _ => rfl)
  · obtain ⟨_, ex, ws2, hD', hp'⟩ := md
    rw [ints_eq hp', fm_map] at hD'
    exact hd H2 ex hD'
/-- what the search's loop keeps -/
def cwP (H H2 : Hp) (m wb : Addr) (x : Str) (b : Bool) (r : Option (Int × List Pr)) (σ : L2.St) (H' : Hp) : Prop :=
  (∃ fv u5 u6, σ = [some (.ref m), some (.ref wb), some (.str x), some (.bl b), some fv, u5, u6, none] ∧ Told H H' fv r) ∧ Ex H H' ∧ Ex H2 H'
theorem cw_inner {H H2 H3 : Hp} {m wb l : Addr} {x : Str} {b : Bool} {fv : V} {ns : List Str} {ps gone : List Pr} {vs : List V} {wt : Pr → Int} {r : Option (Int × List Pr)} {Dd : Ends} (dm : Deb C H m ns ps) (hx : x ∈ ns) (e3 : Ex H H3) (e23 : Ex H2 H3) (hf : Told H H3 fv r) (hl : H3 l = some (.lst vs)) (he : Each H3 vs gone) (hln : H l = none)
    (hD : Dd.nx = cwP H H2 m wb x b (if decide (inL ns ps x gone = b) = true then some (goneW wt gone, gone) else r)) :
    tIfS (tTest (tOp rEq (tOp (rInA Str) (tVar 2) (tCall (sp_least_lot C) [] E0 (tCons (tCall (sp_without_pairs C) [] E0 (tCons (tVar 0) (tCons (tVar 5) tNil))) tNil))) (tVar 3))) (tAsg (tTup (tCons (tVar 6) (tCons (tVar 5) tNil))) (gName 4)) tNext
      Dd [some (.ref m), some (.ref wb), some (.str x), some (.bl b), some fv, some (.ref l), some (.int (goneW wt gone)), none] H3 := by
  have xok := dm.nms.ok x hx
  refine ⟨_, rfl, _, rfl, _, rfl, m, l, ns, ps, gone, rfl, dm.mono e3, at_list hl he, fun m' H4 hm' e4 dm' => ⟨m', _, _, rfl, dm', fun p5 H5 hp5 e5 hl5 => ⟨x, _, at_str xok, (nms_in (srt_nms dm.nms) leastL_sub.subset).at_ hl5, _, rfl, rfl, _, rfl, ?_⟩⟩⟩
  have e35 : Ex H3 H5 := e4.trans e5
  by_cases hok : inL ns ps x gone = b
  · rw [decide_eq_true hok] at hD
    have hok' : decide (x ∈ leastL (srt ns) (srt (ps.filter fun p => !decide (p ∈ gone)))) = b := hok
    refine iteD (congrArg V.bl hok') ⟨_, rfl, _, rfl, (by show 2 ≤ sizeLine; decide), fun t ht => ?_⟩
    show Dd.nx _ _
    rw [hD]
    exact ⟨⟨_, _, _, rfl, t, l, vs, rfl, upd_same, (Ex.new ht) _ _ (e35 _ _ hl), he.mono (e35.trans (Ex.new ht)), hln⟩, e3.trans (e35.trans (Ex.new ht)), e23.trans (e35.trans (Ex.new ht))⟩
  · rw [decide_eq_false hok] at hD
    have hok' : ¬ decide (x ∈ leastL (srt ns) (srt (ps.filter fun p => !decide (p ∈ gone)))) = b := hok
    refine iteDn (fun h => hok' (V.bl.inj h)) ?_
    show Dd.nx _ _
    rw [hD]
    exact ⟨⟨_, _, _, rfl, hf.mono e35⟩, e3.trans e35, e23.trans e35⟩
abbrev s_cheapest_with : Stmt := top 44
theorem sc_cheapest_with : FnScope ["debate", "weights", "statement", "is_in", "found", "pairs", "weight", "pair"] ["debate", "weights", "statement", "is_in"] (defScope s_cheapest_with) := ⟨rfl, rfl, rfl, by decide +kernel, rfl, by decide +kernel, by decide +kernel⟩
def sp_cheapest_with (C : Addr) : Sp := fun vs H Q _ => ∃ (m : Addr) (ns : List Str) (ps : List Pr) (v : V) (wt : Pr → Int) (x : Str) (b : Bool), vs = [.ref m, v, .str x, .bl b] ∧ Deb C H m ns ps ∧ Wts H v ps wt ∧ x ∈ ns ∧ ps.length ≤ 12 ∧
  ∀ v' H', Ex H H' → Told H H' v' (cheapF wt (fun l => decide (inL ns ps x l = b)) (srt (allP ps))) → Q v' H'
theorem has_cheapest_with (T : Txt K mg) (d : Def K mg "cheapest_with" s_cheapest_with) (d_all_parts : Has P w K mg base CX0 "all_parts" ["things"] 1 (sp_all_parts Pr)) (d_least_lot : Has P w K mg base CX0 "least_lot" ["debate"] 3 (sp_least_lot C)) (d_without_pairs : Has P w K mg base CX0 "without_pairs" ["debate", "pairs"] 7 (sp_without_pairs C)) (D : DTxt K mg C) :
    Has P w K mg base CX0 "cheapest_with" ["debate", "weights", "statement", "is_in"] 8 (sp_cheapest_with C) := by
  obtain ⟨f, fd, F, m⟩ := d
  have sc := sc_cheapest_with
  refine ⟨f, fd, F.ok (k := 7) sc (fun vs H Q E h => (by first | (obtain ⟨h, _⟩ := h; rw [h]; rfl) | (obtain ⟨_, h, _⟩ := h; rw [h]; rfl) | (obtain ⟨_, _, h, _⟩ := h; rw [h]; rfl) | (obtain ⟨_, _, _, h, _⟩ := h; rw [h]; rfl) | (obtain ⟨_, _, _, _, h, _⟩ := h; rw [h]; rfl) | (obtain ⟨_, _, _, _, _, h, _⟩ := h; rw [h]; rfl) | (obtain ⟨_, _, _, _, _, _, h, _⟩ := h; rw [h]; rfl) | (obtain ⟨_, _, _, _, _, _, _, h, _⟩ := h; rw [h]; rfl) | (obtain ⟨_, _, _, _, _, _, _, _, h, _⟩ := h; rw [h]; rfl) | (obtain ⟨_, _, _, _, _, _, _, _, _, h, _⟩ := h; rw [h]; rfl) | (obtain ⟨_, _, _, _, _, _, _, _, _, _, h, _⟩ := h; rw [h]; rfl))) (fun cdv A outer s H vs Q E hr h => ?_), m, F.kp, F.binds fun _ _ _ _ _ _ us hl => match us, hl with | [_, _, _, _], _ => rfl⟩
  obtain ⟨m, ns, ps, v, wt, x, b, rfl, dm, hw, hx, hlp, q⟩ := h
  refine ⟨_, ((pss_cons (ps_set (i := 4) sc.nd rfl (by first | exact Or.inl rfl | exact Or.inr rfl) pe_non)
    (pss_cons (ps_for PassesOwn.never rfl (pi_listK K rfl (pe_callB (cr_srtM (α := List Pr) (by decide) (hu64 hr)) (by rfl) T.b_sorted (by decide +kernel) (pa_cons (pe_has d_all_parts (hr.mono (by decide)) pass0 (by exact (pa_cons (pe_fldK K rfl (pv 0) rfl) pa_nil))) pa_nil))) (pg_name (i := 5) sc.nd rfl (by first | exact Or.inl rfl | exact Or.inr rfl))
      (pss_cons (ps_set (i := 6) sc.nd rfl (by first | exact Or.inl rfl | exact Or.inr rfl) (pe_callB (cr_sumK K rfl rfl) (by rfl) T.b_sum (by decide +kernel) (pa_cons (pe_lc (own := [("pair", 7)]) rfl sc.nd (pi_listK K rfl (pv 5)) (blkOk_by (own := [("pair", 7)]) (N := ["debate", "weights", "statement", "is_in", "found", "pairs", "weight", "pair"]) (sc := defScope s_cheapest_with) (by decide +kernel)) (fun _ _ _ _ _ => (pg_name (i := 7) sc.nd rfl (by first | exact Or.inl rfl | exact Or.inr rfl))) (fun _ _ _ _ _ => pts_nil) (fun _ _ _ _ _ => (pe_dget (hu_of hr) (pv 1) (pv 7) (fun _ _ => rfl)))) pa_nil)))
      (pss_one (ps_if (PW.pt (pw_or (pt_cmp (pc_isN (pv 4)) rfl) (pw_or1 (pt_cmpR op_lt (pv 6) (pe_ix (ix_tupK K rfl) (pv 4) pe_int (fun _ _ => rfl)) (nomark _)))))
        (pss_one (ps_if (pt_cmpR op_eq (pe_cmpR (op_inA (α := Str) (by decide) (hu65 hr)) (pv 2) (pe_has d_least_lot (hr.mono (by decide)) pass0 (by exact (pa_cons (pe_has d_without_pairs (hr.mono (by decide)) pass0 (by exact (pa_cons (pv 0) (pa_cons (pv 5) pa_nil)))) pa_nil))) (by rfl)) (pv 3) (nomark _))
          (pss_one (ps_set (i := 4) sc.nd rfl (by first | exact Or.inl rfl | exact Or.inr rfl) (pe_tup (pa_cons (pv 6) (pa_cons (pv 5) pa_nil)))))
          pss_nil))
        pss_nil))))
    (pss_one (ps_ret (pv 4)))))), ?_⟩
  obtain ⟨dx, l1, l2, d1, d2, a1, a2, ws, hm, h1, h2, hW, h3, h4, h5, h6⟩ := dm.ex
  obtain ⟨wb, kvs, rfl, hwb, hwl, hwt⟩ := hw
  have lot : (srt (allP ps)).length ≤ 4096 := by rw [srt_length]; exact Nat.le_trans (allP_len _) (Nat.le_trans (Nat.pow_le_pow_right (by decide) hlp) (by decide))
  refine ⟨_, rfl, m, C, dx, _, .ref l2, rfl, hm, D.cl, D.nO, look_O _ _ _ _, l2, ps, rfl, at_list h2 hW, hlp, fun p1 vs1 H1 hp1 e1 hl1 hE1 hfr => ⟨p1, vs1, _, rfl, hl1, hE1, fun p2 ws2 hp2 hw2 hsub => ?_⟩⟩
  have e2 : Ex H (upd H1 p2 (.lst ws2)) := e1.trans (Ex.new hp2)
  have hl2 : (upd H1 p2 (.lst ws2)) p2 = some (.lst ws2) := upd_same
  have hE2 : Each (upd H1 p2 (.lst ws2)) ws2 (srt (allP ps)) := hw2.mono (Ex.new hp2)
  generalize upd H1 p2 (.lst ws2) = H2 at e2 hl2 hE2
  have wl2 := hE2.length
  refine ⟨p2, rfl, ⟨_, SqL.of hl2⟩, forG (srt (allP ps)).length (fun i => cwP H H2 m wb x b (cheapF wt (fun l => decide (inL ns ps x l = b)) ((srt (allP ps)).take i))) ⟨⟨_, _, _, rfl, rfl⟩, e2, Ex.refl _⟩ (fun i σ H' hi ⟨_, _, e⟩ => ⟨_, ws2[i], SqL.of (e _ _ hl2), List.getElem?_eq_getElem (by omega)⟩) (fun σ H' ⟨_, _, e⟩ => ⟨_, SqL.of (e _ _ hl2), by omega⟩) ?_ ?_⟩
  · rintro i σ H' y H3 hi ⟨⟨fv, u5, u6, rfl, hf⟩, e3, e23⟩ ⟨rfl, hy⟩
    have hyg := hy _ (SqL.of (e23 _ _ hl2))
    obtain ⟨gone, hg, hat⟩ := Paired.get hE2 hyg
    obtain ⟨l, rfl, hln⟩ := hfr _ (hsub _ (List.mem_of_getElem? hyg))
    obtain ⟨gvs, hgl, hge⟩ := Each.ofAt hat
    have gsub : gone.Sublist ps := allP_sub ((srt_perm _).mem_iff.mp (List.mem_of_getElem? hg))
    have glen : gone.length ≤ 1000 := by have := gsub.length_le; omega
    have hgl3 := e23 _ _ hgl
    have hge3 := hge.mono e23
    refine ⟨_, rfl, l, rfl, ⟨_, SqL.of hgl3⟩, fun Dd hD => wsum_go (wt := wt) hgl3 hge3 (e3 _ _ hwb) (fun p hp => (hwt p (gsub.subset hp)).1) glen hD (fun T' H' Q _ p hp g hq => ⟨rfl, _, rfl, _, rfl, wb, _, rfl, g, hq⟩) (fun H4 e4 hD4 => ⟨Dd, _, rfl, SqL.of hD4, ?_⟩)⟩
    have e24 := e23.trans e4
    have e04 := e3.trans e4
    rw [take_more hg, cheapF_snoc]
    have hf4 := hf.mono e4
    have gl4 := e4 _ _ hgl3
    have ge4 := hge3.mono e4
    cases hr : cheapF wt (fun l => decide (inL ns ps x l = b)) ((srt (allP ps)).take i) with
    | none =>
      rw [hr] at hf4
      have hfn : fv = .non := hf4
      subst hfn
      exact ⟨_, rfl, _, rfl, iteD rfl (cw_inner dm hx e04 e24 (r := none) rfl gl4 ge4 hln rfl)⟩
    | some wg =>
      obtain ⟨w0, g0⟩ := wg
      rw [hr] at hf4
      obtain ⟨t, tl, tvs, rfl, ht, htl⟩ := id hf4
      refine ⟨_, rfl, _, rfl, iteDn (fun h => by cases h) ⟨_, rfl, _, rfl, t, _, 0, .int w0, rfl, rfl, SqT.of ht, rfl, _, _, rfl, rfl, _, rfl, ?_⟩⟩
      by_cases hlt : goneW wt gone < w0
      · refine iteD hlt (cw_inner dm hx e04 e24 (r := some (w0, g0)) hf4 gl4 ge4 hln ?_)
        show cwP _ _ _ _ _ _ _ = _
        unfold cheapStep
        dsimp only
        rw [if_pos hlt]
      · refine iteDn hlt ?_
        show cwP _ _ _ _ _ _ _ _ _
        unfold cheapStep
        dsimp only
        rw [if_neg hlt]
        exact ⟨⟨_, _, _, rfl, hf4⟩, e04, e24⟩
  · rintro σ H' ⟨⟨fv, u5, u6, rfl, hf⟩, e3, e23⟩
    rw [List.take_length] at hf
    exact ⟨_, rfl, q fv H' e3 hf⟩
end
end K73
set_option maxRecDepth 100000
set_option maxHeartbeats 4000000
namespace K73
open Enc (At enc)
open PySem L2 Evl
/-- no statement of ns is asked for -/
def NoSt (H : Hp) (v : V) (ns : List Str) : Prop := (∃ k, Knd H v k) ∧ ∀ x, v = .str x → x ∉ ns
theorem NoSt.mono {H H' : Hp} {v : V} {ns : List Str} (e : Ex H H') (h : NoSt H v ns) : NoSt H' v ns := ⟨let ⟨k, z⟩ := h.1; ⟨k, z.mono e⟩, h.2⟩
section
variable {P : Program} {w : World} {K : PySem.W.Frag} {mg : Str → Option Value} {base : Heap} {C C_NoStatement C_BadWeights C_BadName : Addr}
abbrev s_cheapest_rise : Stmt := top 45
theorem sc_cheapest_rise : FnScope ["debate", "weights", "statement", "known"] ["debate", "weights", "statement"] (defScope s_cheapest_rise) := ⟨rfl, rfl, rfl, by decide +kernel, rfl, by decide +kernel, by decide +kernel⟩
abbrev s_cheapest_fall : Stmt := top 46
theorem sc_cheapest_fall : FnScope ["debate", "weights", "statement", "known"] ["debate", "weights", "statement"] (defScope s_cheapest_fall) := ⟨rfl, rfl, rfl, by decide +kernel, rfl, by decide +kernel, by decide +kernel⟩
def sp_cheapest (C NS BW : Addr) (b : Bool) : Sp := fun vs H Q E => ∃ (m : Addr) (ns : List Str) (ps : List Pr) (v u : V), vs = [.ref m, v, u] ∧ Deb C H m ns ps ∧
  ((∃ wt x, Wts H v ps wt ∧ u = .str x ∧ x ∈ ns ∧ ps.length ≤ 12 ∧ ∀ v' H', Ex H H' → Told H H' v' (cheapF wt (fun l => decide (inL ns ps x l = b)) (srt (allP ps))) → Q v' H') ∨
   (BadW H v ps ∧ ∀ d, H d = none → E (.ref BW) (some d) (upd H d (.xd [("thing", v)]))) ∨
   (∃ wt, Wts H v ps wt ∧ NoSt H u ns ∧ ∀ d, H d = none → E (.ref NS) (some d) (upd H d (.xd [("thing", u)]))))
theorem has_cheapest_rise (T : Txt K mg) (d : Def K mg "cheapest_rise" s_cheapest_rise) (d_checked_weights : Has P w K mg base (L2.CX P w) "checked_weights" ["debate", "weights"] 3 (sp_checked_weights C C_BadWeights)) (d_cheapest_with : Has P w K mg base CX0 "cheapest_with" ["debate", "weights", "statement", "is_in"] 8 (sp_cheapest_with C)) (d_checked_statement : Has P w K mg base (L2.CX P w) "checked_statement" ["debate", "statement"] 3 (sp_checked_statement C C_NoStatement))  :
    Has P w K mg base (L2.CX P w) "cheapest_rise" ["debate", "weights", "statement"] 9 (sp_cheapest C C_NoStatement C_BadWeights true) ∧ HasKw P w K mg base (L2.CX P w) "cheapest_rise" ["debate", "weights", "statement"] 9 (sp_cheapest C C_NoStatement C_BadWeights true) := by
  obtain ⟨f, fd, F, m⟩ := d
  have sc := sc_cheapest_rise
  suffices ok : FnOk P w K mg base (L2.CX P w) 9 f fd ["debate", "weights", "statement"] (sp_cheapest C C_NoStatement C_BadWeights true) from ⟨⟨f, fd, ok, m, F.kp, F.binds fun _ _ _ _ _ _ us hl => match us, hl with | [_, _, _], _ => rfl⟩, ⟨f, fd, ok, m, F.kp, kbR F fun _ _ _ _ _ _ _ _ _ => rfl⟩⟩
  refine F.okX (k := 8) sc (fun vs H Q E h => (by first | (obtain ⟨h, _⟩ := h; rw [h]; rfl) | (obtain ⟨_, h, _⟩ := h; rw [h]; rfl) | (obtain ⟨_, _, h, _⟩ := h; rw [h]; rfl) | (obtain ⟨_, _, _, h, _⟩ := h; rw [h]; rfl) | (obtain ⟨_, _, _, _, h, _⟩ := h; rw [h]; rfl) | (obtain ⟨_, _, _, _, _, h, _⟩ := h; rw [h]; rfl) | (obtain ⟨_, _, _, _, _, _, h, _⟩ := h; rw [h]; rfl) | (obtain ⟨_, _, _, _, _, _, _, h, _⟩ := h; rw [h]; rfl) | (obtain ⟨_, _, _, _, _, _, _, _, h, _⟩ := h; rw [h]; rfl) | (obtain ⟨_, _, _, _, _, _, _, _, _, h, _⟩ := h; rw [h]; rfl) | (obtain ⟨_, _, _, _, _, _, _, _, _, _, h, _⟩ := h; rw [h]; rfl))) (fun cdv A outer s H vs Q E hr h => ?_)
  obtain ⟨m, ns, ps, v, u, rfl, dm, q⟩ := h
  refine ⟨_, ((pss_cons (ps_set (i := 3) sc.nd rfl (by first | exact Or.inl rfl | exact Or.inr rfl) (pe_has d_checked_weights (hr.mono (by decide)) (passes_call (takes_of rfl rfl rfl rfl) (fun _ _ _ _ h => h)) (by exact (pa_cons (pv 0) (pa_cons (pv 1) pa_nil)))))
    (pss_one (ps_ret (pe_has d_cheapest_with (hr.mono (by decide)) pass0 (by exact (pa_cons (pv 0) (pa_cons (pv 3) (pa_cons (pe_has d_checked_statement (hr.mono (by decide)) (passes_call (takes_of rfl rfl rfl rfl) (fun _ _ _ _ h => h)) (by exact (pa_cons (pv 0) (pa_cons (pv 2) pa_nil)))) (pa_cons pe_bl pa_nil)))))))))), ?_⟩
  rcases q with ⟨wt, x, hw, rfl, hx, hlp, q⟩ | ⟨bad, q⟩ | ⟨wt, hw, hn, q⟩
  · exact ⟨_, rfl, _, rfl, m, ns, ps, v, rfl, dm, Or.inl ⟨wt, hw, ⟨_, rfl, _, rfl, _, rfl, _, rfl, m, ns, ps, .str x, rfl, dm, Or.inl ⟨x, rfl, hx, m, ns, ps, v, wt, x, true, rfl, dm, hw, hx, hlp, q⟩⟩⟩⟩
  · exact ⟨_, rfl, _, rfl, m, ns, ps, v, rfl, dm, Or.inr ⟨bad, q⟩⟩
  · exact ⟨_, rfl, _, rfl, m, ns, ps, v, rfl, dm, Or.inl ⟨wt, hw, ⟨_, rfl, _, rfl, _, rfl, _, rfl, m, ns, ps, u, rfl, dm, Or.inr ⟨(let ⟨k, z⟩ := hn.1; ⟨k, z, hn.2⟩), q⟩⟩⟩⟩
theorem has_cheapest_fall (T : Txt K mg) (d : Def K mg "cheapest_fall" s_cheapest_fall) (d_checked_weights : Has P w K mg base (L2.CX P w) "checked_weights" ["debate", "weights"] 3 (sp_checked_weights C C_BadWeights)) (d_cheapest_with : Has P w K mg base CX0 "cheapest_with" ["debate", "weights", "statement", "is_in"] 8 (sp_cheapest_with C)) (d_checked_statement : Has P w K mg base (L2.CX P w) "checked_statement" ["debate", "statement"] 3 (sp_checked_statement C C_NoStatement))  :
    Has P w K mg base (L2.CX P w) "cheapest_fall" ["debate", "weights", "statement"] 9 (sp_cheapest C C_NoStatement C_BadWeights false) ∧ HasKw P w K mg base (L2.CX P w) "cheapest_fall" ["debate", "weights", "statement"] 9 (sp_cheapest C C_NoStatement C_BadWeights false) := by
  obtain ⟨f, fd, F, m⟩ := d
  have sc := sc_cheapest_fall
  suffices ok : FnOk P w K mg base (L2.CX P w) 9 f fd ["debate", "weights", "statement"] (sp_cheapest C C_NoStatement C_BadWeights false) from ⟨⟨f, fd, ok, m, F.kp, F.binds fun _ _ _ _ _ _ us hl => match us, hl with | [_, _, _], _ => rfl⟩, ⟨f, fd, ok, m, F.kp, kbR F fun _ _ _ _ _ _ _ _ _ => rfl⟩⟩
  refine F.okX (k := 8) sc (fun vs H Q E h => (by first | (obtain ⟨h, _⟩ := h; rw [h]; rfl) | (obtain ⟨_, h, _⟩ := h; rw [h]; rfl) | (obtain ⟨_, _, h, _⟩ := h; rw [h]; rfl) | (obtain ⟨_, _, _, h, _⟩ := h; rw [h]; rfl) | (obtain ⟨_, _, _, _, h, _⟩ := h; rw [h]; rfl) | (obtain ⟨_, _, _, _, _, h, _⟩ := h; rw [h]; rfl) | (obtain ⟨_, _, _, _, _, _, h, _⟩ := h; rw [h]; rfl) | (obtain ⟨_, _, _, _, _, _, _, h, _⟩ := h; rw [h]; rfl) | (obtain ⟨_, _, _, _, _, _, _, _, h, _⟩ := h; rw [h]; rfl) | (obtain ⟨_, _, _, _, _, _, _, _, _, h, _⟩ := h; rw [h]; rfl) | (obtain ⟨_, _, _, _, _, _, _, _, _, _, h, _⟩ := h; rw [h]; rfl))) (fun cdv A outer s H vs Q E hr h => ?_)
  obtain ⟨m, ns, ps, v, u, rfl, dm, q⟩ := h
  refine ⟨_, ((pss_cons (ps_set (i := 3) sc.nd rfl (by first | exact Or.inl rfl | exact Or.inr rfl) (pe_has d_checked_weights (hr.mono (by decide)) (passes_call (takes_of rfl rfl rfl rfl) (fun _ _ _ _ h => h)) (by exact (pa_cons (pv 0) (pa_cons (pv 1) pa_nil)))))
    (pss_one (ps_ret (pe_has d_cheapest_with (hr.mono (by decide)) pass0 (by exact (pa_cons (pv 0) (pa_cons (pv 3) (pa_cons (pe_has d_checked_statement (hr.mono (by decide)) (passes_call (takes_of rfl rfl rfl rfl) (fun _ _ _ _ h => h)) (by exact (pa_cons (pv 0) (pa_cons (pv 2) pa_nil)))) (pa_cons pe_bl pa_nil)))))))))), ?_⟩
  rcases q with ⟨wt, x, hw, rfl, hx, hlp, q⟩ | ⟨bad, q⟩ | ⟨wt, hw, hn, q⟩
  · exact ⟨_, rfl, _, rfl, m, ns, ps, v, rfl, dm, Or.inl ⟨wt, hw, ⟨_, rfl, _, rfl, _, rfl, _, rfl, m, ns, ps, .str x, rfl, dm, Or.inl ⟨x, rfl, hx, m, ns, ps, v, wt, x, false, rfl, dm, hw, hx, hlp, q⟩⟩⟩⟩
  · exact ⟨_, rfl, _, rfl, m, ns, ps, v, rfl, dm, Or.inr ⟨bad, q⟩⟩
  · exact ⟨_, rfl, _, rfl, m, ns, ps, v, rfl, dm, Or.inl ⟨wt, hw, ⟨_, rfl, _, rfl, _, rfl, _, rfl, m, ns, ps, u, rfl, dm, Or.inr ⟨(let ⟨k, z⟩ := hn.1; ⟨k, z, hn.2⟩), q⟩⟩⟩⟩
theorem ints_each {H : Hp} : ∀ is : List Int, Each H (is.map V.int) is
  | [] => .nil
  | _ :: is => .cons rfl (ints_each is)
def pricesF (wt : Pr → Int) (ns : List Str) (ps : List Pr) : List (Int × List Str) := (srt (allP ns)).map fun ms => (goneW wt (overH ps ms), ms)
theorem overH_in {ps : List Pr} {ms : List Str} : ∀ p ∈ overH ps ms, p ∈ ps := fun p hp => (List.mem_filter.mp (List.mem_filter.mp hp).1).1
theorem overH_len {ps : List Pr} {ms : List Str} : (overH ps ms).length ≤ ps.length := Nat.le_trans (List.length_filter_le _ _) (List.length_filter_le _ _)
abbrev s_all_prices : Stmt := top 49
theorem sc_all_prices : FnScope ["debate", "weights", "found", "members", "pair"] ["debate", "weights"] (defScope s_all_prices) := ⟨rfl, rfl, rfl, by decide +kernel, rfl, by decide +kernel, by decide +kernel⟩
def sp_all_prices (C : Addr) : Sp := fun vs H Q _ => ∃ (m : Addr) (ns : List Str) (ps : List Pr) (v : V) (wt : Pr → Int), vs = [.ref m, v] ∧ Deb C H m ns ps ∧ Wts H v ps wt ∧ ns.length ≤ 12 ∧
  ∀ p H', H p = none → Ex H H' → At H' (.ref p) (pricesF wt ns ps) → Q (.ref p) H'
theorem has_all_prices (T : Txt K mg) (d : Def K mg "all_prices" s_all_prices) (d_all_parts : Has P w K mg base CX0 "all_parts" ["things"] 1 (sp_all_parts Str)) (d_overheard_in : Has P w K mg base CX0 "overheard_in" ["debate", "way", "members"] 1 (sp_overheard_in C)) (D : DTxt K mg C) :
    Has P w K mg base CX0 "all_prices" ["debate", "weights"] 2 (sp_all_prices C) := by
  obtain ⟨f, fd, F, m⟩ := d
  have sc := sc_all_prices
  refine ⟨f, fd, F.ok (k := 1) sc (fun vs H Q E h => (by first | (obtain ⟨h, _⟩ := h; rw [h]; rfl) | (obtain ⟨_, h, _⟩ := h; rw [h]; rfl) | (obtain ⟨_, _, h, _⟩ := h; rw [h]; rfl) | (obtain ⟨_, _, _, h, _⟩ := h; rw [h]; rfl) | (obtain ⟨_, _, _, _, h, _⟩ := h; rw [h]; rfl) | (obtain ⟨_, _, _, _, _, h, _⟩ := h; rw [h]; rfl) | (obtain ⟨_, _, _, _, _, _, h, _⟩ := h; rw [h]; rfl) | (obtain ⟨_, _, _, _, _, _, _, h, _⟩ := h; rw [h]; rfl) | (obtain ⟨_, _, _, _, _, _, _, _, h, _⟩ := h; rw [h]; rfl) | (obtain ⟨_, _, _, _, _, _, _, _, _, h, _⟩ := h; rw [h]; rfl) | (obtain ⟨_, _, _, _, _, _, _, _, _, _, h, _⟩ := h; rw [h]; rfl))) (fun cdv A outer s H vs Q E hr h => ?_), m, F.kp, F.binds fun _ _ _ _ _ _ us hl => match us, hl with | [_, _], _ => rfl⟩
  obtain ⟨m, ns, ps, v, wt, rfl, dm, hw, hln, q⟩ := h
  refine ⟨_, ((pss_cons (ps_set (i := 2) sc.nd rfl (by first | exact Or.inl rfl | exact Or.inr rfl) (pe_lst pa_nil))
    (pss_cons (ps_for PassesOwn.never rfl (pi_listK K rfl (pe_callB (cr_srtM (α := List Str) (by decide) (hu64 hr)) (by rfl) T.b_sorted (by decide +kernel) (pa_cons (pe_has d_all_parts (hr.mono (by decide)) pass0 (by exact (pa_cons (pe_fldK K rfl (pv 0) rfl) pa_nil))) pa_nil))) (pg_name (i := 3) sc.nd rfl (by first | exact Or.inl rfl | exact Or.inr rfl))
      (pss_one (ps_expr (pe_bmK K rfl PySem.F.plainAttrs_list PySem.F.slot_list_append PySem.F.type_list_append mt_append (pv 2) (pa_cons (pe_tup (pa_cons (pe_callB (cr_sumK K rfl rfl) (by rfl) T.b_sum (by decide +kernel) (pa_cons (pe_lc (own := [("pair", 4)]) rfl sc.nd (pi_listK K rfl (pe_has d_overheard_in (hr.mono (by decide)) pass0 (by exact (pa_cons (pv 0) (pa_cons pe_str (pa_cons (pv 3) pa_nil)))))) (blkOk_by (own := [("pair", 4)]) (N := ["debate", "weights", "found", "members", "pair"]) (sc := defScope s_all_prices) (by decide +kernel)) (fun _ _ _ _ _ => (pg_name (i := 4) sc.nd rfl (by first | exact Or.inl rfl | exact Or.inr rfl))) (fun _ _ _ _ _ => pts_nil) (fun _ _ _ _ _ => (pe_dget (hu_of hr) (pv 1) (pv 4) (fun _ _ => rfl)))) pa_nil)) (pa_cons (pv 3) pa_nil))) pa_nil)))))
    (pss_one (ps_ret (pv 2)))))), ?_⟩
  refine ⟨(by show 0 ≤ _; exact Nat.zero_le _), fun p0 hp0 => ?_⟩
  have e0 : Ex H (upd H p0 (.lst [])) := Ex.new hp0
  have hl0 : (upd H p0 (.lst [])) p0 = some (.lst []) := upd_same
  have dm0 := dm.mono e0
  generalize upd H p0 (.lst []) = H0 at e0 hl0 dm0
  obtain ⟨dx, l1, l2, d1, d2, a1, a2, ws, hm, h1, h2, hW, h3, h4, h5, h6⟩ := dm0.ex
  obtain ⟨wb, kvs, rfl, hwb, hwl, hwt⟩ := hw
  have lp := dm.lp
  have lot : (srt (allP ns)).length ≤ 4096 := by rw [srt_length]; exact Nat.le_trans (allP_len _) (Nat.le_trans (Nat.pow_le_pow_right (by decide) hln) (by decide))
  refine ⟨_, rfl, m, C, dx, _, .ref l1, rfl, hm, D.cl, D.nS, look_S _ _ _ _, l1, ns, rfl, dm.nms.at_ h1, hln, fun p1 vs1 H1 hp1 e1 hl1 hE1 hfr => ⟨p1, vs1, _, rfl, hl1, hE1, fun p2 ws2 hp2 hw2 hsub => ?_⟩⟩
  have e2 : Ex H0 (upd H1 p2 (.lst ws2)) := e1.trans (Ex.new hp2)
  have hl2 : (upd H1 p2 (.lst ws2)) p2 = some (.lst ws2) := upd_same
  have hE2 : Each (upd H1 p2 (.lst ws2)) ws2 (srt (allP ns)) := hw2.mono (Ex.new hp2)
  have p20 : p2 ≠ p0 := fun q => by rw [q, e1 _ _ hl0] at hp2; cases hp2
  generalize upd H1 p2 (.lst ws2) = H2 at e2 hl2 hE2
  have wl2 := hE2.length
  have eD : Ex H (del H2 p0) := (ex_del (e0.trans e2) hp0)
  have hl2' : (del H2 p0) p2 = some (.lst ws2) := by rw [del_ne p20]; exact hl2
  refine ⟨p2, rfl, ⟨_, SqL.of hl2⟩, forG (srt (allP ns)).length (fun i σ H' => (∃ u3, σ = [some (.ref m), some (.ref wb), some (.ref p0), u3, none]) ∧ Ex (del H2 p0) H' ∧ ∃ vs, H' p0 = some (.lst vs) ∧ Each (del H' p0) vs (((srt (allP ns)).take i).map fun ms => (goneW wt (overH ps ms), ms))) ⟨⟨_, rfl⟩, del_sub, [], e2 _ _ hl0, .nil⟩ (fun i σ H' hi ⟨_, e, _⟩ => ⟨_, ws2[i], SqL.of (e _ _ hl2'), List.getElem?_eq_getElem (by omega)⟩) (fun σ H' ⟨_, e, _⟩ => ⟨_, SqL.of (e _ _ hl2'), by omega⟩) ?_ ?_⟩
  · rintro i σ H' y H3 hi ⟨⟨u3, rfl⟩, e, vs, hv, he⟩ ⟨rfl, hy⟩
    have hyg := hy _ (SqL.of (e _ _ hl2'))
    obtain ⟨ms, hg, hat⟩ := Paired.get hE2 hyg
    obtain ⟨l, rfl, hln'⟩ := hfr _ (hsub _ (List.mem_of_getElem? hyg))
    obtain ⟨_, hq, hls⟩ := at_strs hat
    cases hq
    have l0 : l ≠ p0 := fun q => by rw [q, hl0] at hln'; cases hln'
    have msub : ms.Sublist ns := allP_sub ((srt_perm _).mem_iff.mp (List.mem_of_getElem? hg))
    have hls' : (del H2 p0) l = some (.lst (ms.map V.str)) := by rw [del_ne l0]; exact hls
    have nm : Nms ms := nms_in dm.nms fun x hx => msub.subset hx
    have hpH3 : (del H2 p0) p0 = none := del_same
    refine ⟨_, rfl, Or.inl ⟨rfl, _, SqL.of hv⟩, ?_⟩
    refine ⟨_, rfl, _, rfl, m, l, ns, ps, ms, rfl, (dm.mono eD).mono e, e _ _ hls', fun x hx => msub.subset hx, by have := msub.length_le; omega, fun p3 H4 hp3 e4 hA4 => ?_⟩
    obtain ⟨ovs, hl3, hE3⟩ := Each.ofAt hA4
    refine ⟨p3, rfl, ⟨_, SqL.of hl3⟩, fun Dd hD => wsum_go (wt := wt) hl3 hE3 (e4 _ _ (e _ _ (eD _ _ hwb))) (fun p hp => (hwt p (overH_in p hp)).1) (Nat.le_trans overH_len lp) hD (fun T' H' Q _ p hp g hq => ⟨rfl, _, rfl, _, rfl, wb, _, rfl, g, hq⟩) (fun H5 e5 hD5 => ⟨Dd, _, rfl, SqL.of hD5, _, rfl, (by show 2 ≤ sizeLine; decide), fun t ht => ?_⟩)⟩
    have e35 : Ex H3 (upd H5 t (.tup [.int (goneW wt (overH ps ms)), .ref l])) := (e4.trans e5).trans (Ex.new ht)
    have s1 : (100001 : Nat) < sizeLine := by decide
    have vl : vs.length ≤ 4096 := by have := he.length; rw [List.length_map, List.length_take] at this; omega
    have t0 : t ≠ p0 := fun q => by rw [q, e5 _ _ (e4 _ _ hv)] at ht; cases ht
    refine ⟨p0, vs, .ref t, rfl, rfl, e35 _ _ hv, by omega, ⟨_, rfl⟩, Ex.mut (e.trans e35) hpH3, _, upd_same, ?_⟩
    rw [del_upd, take_more hg, List.map_append]
    refine (he.mono (del_ex e35)).snoc ?_
    exact at_pair (by rw [del_ne t0]; exact upd_same) (at_int _) (nm.at_ (by rw [del_ne l0]; exact e35 _ _ (e _ _ hls')))
  · rintro σ H' ⟨⟨u3, rfl⟩, e, vs, hv, he⟩
    rw [List.take_length] at he
    exact ⟨_, rfl, q p0 _ hp0 (eD.trans e) (at_list hv (he.mono del_sub))⟩
abbrev s_prices_with : Stmt := top 50
theorem sc_prices_with : FnScope ["debate", "weights", "statement", "known", "one", "price", "lot"] ["debate", "weights", "statement"] (defScope s_prices_with) := ⟨rfl, rfl, rfl, by decide +kernel, rfl, by decide +kernel, by decide +kernel⟩
def sp_prices_with (C : Addr) : Sp := fun vs H Q _ => ∃ (m : Addr) (ns : List Str) (ps : List Pr) (v : V) (wt : Pr → Int) (x : Str), vs = [.ref m, v, .str x] ∧ Deb C H m ns ps ∧ Wts H v ps wt ∧ ns.length ≤ 12 ∧ x ∈ ns ∧
  ∀ p H', H p = none → Ex H H' → At H' (.ref p) ((pricesF wt ns ps).filter fun z => decide (x ∈ z.2)) → Q (.ref p) H'
theorem has_prices_with (T : Txt K mg) (d : Def K mg "prices_with" s_prices_with) (d_checked_weights : Has P w K mg base (L2.CX P w) "checked_weights" ["debate", "weights"] 3 (sp_checked_weights C C_BadWeights)) (d_checked_statement : Has P w K mg base (L2.CX P w) "checked_statement" ["debate", "statement"] 3 (sp_checked_statement C C_NoStatement)) (d_all_prices : Has P w K mg base CX0 "all_prices" ["debate", "weights"] 2 (sp_all_prices C))  :
    Has P w K mg base CX0 "prices_with" ["debate", "weights", "statement"] 4 (sp_prices_with C) := by
  obtain ⟨f, fd, F, m⟩ := d
  have sc := sc_prices_with
  refine ⟨f, fd, F.ok (k := 3) sc (fun vs H Q E h => (by first | (obtain ⟨h, _⟩ := h; rw [h]; rfl) | (obtain ⟨_, h, _⟩ := h; rw [h]; rfl) | (obtain ⟨_, _, h, _⟩ := h; rw [h]; rfl) | (obtain ⟨_, _, _, h, _⟩ := h; rw [h]; rfl) | (obtain ⟨_, _, _, _, h, _⟩ := h; rw [h]; rfl) | (obtain ⟨_, _, _, _, _, h, _⟩ := h; rw [h]; rfl) | (obtain ⟨_, _, _, _, _, _, h, _⟩ := h; rw [h]; rfl) | (obtain ⟨_, _, _, _, _, _, _, h, _⟩ := h; rw [h]; rfl) | (obtain ⟨_, _, _, _, _, _, _, _, h, _⟩ := h; rw [h]; rfl) | (obtain ⟨_, _, _, _, _, _, _, _, _, h, _⟩ := h; rw [h]; rfl) | (obtain ⟨_, _, _, _, _, _, _, _, _, _, h, _⟩ := h; rw [h]; rfl))) (fun cdv A outer s H vs Q E hr h => ?_), m, F.kp, F.binds fun _ _ _ _ _ _ us hl => match us, hl with | [_, _, _], _ => rfl⟩
  obtain ⟨m, ns, ps, v, wt, x, rfl, dm, hw, hln, hx, q⟩ := h
  refine ⟨_, ((pss_cons (ps_set (i := 3) sc.nd rfl (by first | exact Or.inl rfl | exact Or.inr rfl) (pe_has d_checked_weights (hr.mono (by decide)) passL (by exact (pa_cons (pv 0) (pa_cons (pv 1) pa_nil)))))
    (pss_cons (ps_set (i := 4) sc.nd rfl (by first | exact Or.inl rfl | exact Or.inr rfl) (pe_has d_checked_statement (hr.mono (by decide)) passL (by exact (pa_cons (pv 0) (pa_cons (pv 2) pa_nil)))))
    (pss_one (ps_ret (pe_lc (own := [("price", 5), ("lot", 6)]) rfl sc.nd (pi_listK K rfl (pe_has d_all_prices (hr.mono (by decide)) pass0 (by exact (pa_cons (pv 0) (pa_cons (pv 3) pa_nil))))) (blkOk_by (own := [("price", 5), ("lot", 6)]) (N := ["debate", "weights", "statement", "known", "one", "price", "lot"]) (sc := defScope s_prices_with) (by decide +kernel)) (fun _ _ _ _ _ => (pg_tupK (n := 2) K rfl rfl (pgs_cons (pg_name (i := 5) sc.nd rfl (by first | exact Or.inl rfl | exact Or.inr rfl)) (pgs_cons (pg_name (i := 6) sc.nd rfl (by first | exact Or.inl rfl | exact Or.inr rfl)) pgs_nil)))) (fun _ _ _ _ _ => (pts_one (pt_cmpR (op_inA (α := Str) (by decide) (hu65 hr)) (pv 4) (pv 6) (by rfl)))) (fun _ _ _ _ _ => (pe_tup (pa_cons (pv 5) (pa_cons (pv 6) pa_nil)))))))))), ?_⟩
  have xok := dm.nms.ok x hx
  refine ⟨_, rfl, _, rfl, m, ns, ps, v, rfl, dm, Or.inl ⟨wt, hw, ⟨_, rfl, _, rfl, m, ns, ps, .str x, rfl, dm, Or.inl ⟨x, rfl, hx, ?_⟩⟩⟩⟩
  refine ⟨_, rfl, _, rfl, m, ns, ps, v, wt, rfl, dm, hw, hln, fun p1 H1 hp1 e1 hA1 => ?_⟩
  obtain ⟨vs, hl, hE⟩ := Each.ofAt hA1
  have lot : (pricesF wt ns ps).length ≤ 4096 := by unfold pricesF; rw [List.length_map, srt_length]; exact Nat.le_trans (allP_len _) (Nat.le_trans (Nat.pow_le_pow_right (by decide) hln) (by decide))
  have zok : ∀ z ∈ pricesF wt ns ps, Nms z.2 := fun z hz => by
    obtain ⟨ms, hms, rfl⟩ := List.mem_map.mp hz
    exact nms_in dm.nms fun y hy => (allP_sub ((srt_perm _).mem_iff.mp hms)).subset hy
  refine ⟨p1, rfl, ⟨_, SqL.of hl⟩, fun Dd hD => lcL (R := fun _ v z => At H1 v z) (S := (At : Rel (Int × List Str))) (f := fun z => if decide (x ∈ z.2) = true then some z else none) ⟨fun _ _ _ _ _ h => h⟩ at_stays (fun _ e => SqL.of (e _ _ hl)) hE hD (by omega) (fun u z H2 e2 hu hz Kn Ky kn ky => ?_) (fun H2 md => ?_)⟩
  · obtain ⟨t, a, c, rfl, ht, ha, hc⟩ := id hu
    have ha' : a = .int z.1 := ha
    subst ha'
    refine ⟨t, _, rfl, SqT.of (e2 _ _ ht), rfl, _, _, rfl, _, _, rfl, ⟨rfl, rfl, _, rfl, _, rfl, x, z.2, at_str xok, Enc.mono e2 hc, _, rfl, ?_⟩⟩
    by_cases hb : x ∈ z.2
    · refine iteD hb ⟨_, rfl, _, rfl, (by show 2 ≤ sizeLine; decide), fun t2 ht2 => ky _ z _ (Ex.new ht2) (by simp [hb]) fun G eG gG => ?_⟩
      exact at_pair (gG t2 _ ht2 upd_same) (at_int _) (Enc.mono eG hc)
    · exact iteDn hb (kn _ (Ex.refl _) (by simp [hb]))
  · rw [fm_if] at md
    obtain ⟨hn, ex, ws2, hD', hw2⟩ := md
    exact q Dd _ (fresh_back e1 hn) (e1.trans ex) (at_list hD' (Each.mono del_sub hw2))
theorem minA_int : ∀ (xs : List Int) (x : Int), ∀ y ∈ x :: xs, minA x xs ≤ y
  | [], x, y, h => by
    rw [List.mem_singleton.mp h]
    exact Int.le_refl _
  | z :: xs, x, y, h => by
    show minA (if ltA z x = true then z else x) xs ≤ y
    have lt : ltA z x = decide (z < x) := PySem.W.dataLt_int _ _
    have ih := minA_int xs (if ltA z x = true then z else x)
    have h0 := ih _ List.mem_cons_self
    rw [lt] at h0 ih ⊢
    rcases List.mem_cons.mp h with e | h
    · subst e
      by_cases c : z < y
      · rw [if_pos (decide_eq_true c)] at h0 ⊢
        omega
      · rw [if_neg (by simpa using c)] at h0 ⊢
        exact h0
    · rcases List.mem_cons.mp h with e | h
      · subst e
        by_cases c : y < x
        · rw [if_pos (decide_eq_true c)] at h0 ⊢
          exact h0
        · rw [if_neg (by simpa using c)] at h0 ⊢
          omega
      · exact ih y (List.mem_cons_of_mem _ h)
abbrev s_least_budget : Stmt := top 51
theorem sc_least_budget : FnScope ["debate", "weights", "statement", "price", "lot"] ["debate", "weights", "statement"] (defScope s_least_budget) := ⟨rfl, rfl, rfl, by decide +kernel, rfl, by decide +kernel, by decide +kernel⟩
def sp_least_budget (C : Addr) : Sp := fun vs H Q _ => ∃ (m : Addr) (ns : List Str) (ps : List Pr) (v : V) (wt : Pr → Int) (x : Str), vs = [.ref m, v, .str x] ∧ Deb C H m ns ps ∧ Wts H v ps wt ∧ ns.length ≤ 12 ∧ x ∈ ns ∧
  ∀ i H', Ex H H' → (∀ z ∈ pricesF wt ns ps, x ∈ z.2 → i ≤ z.1) → Q (.int i) H'
theorem has_least_budget (T : Txt K mg) (d : Def K mg "least_budget" s_least_budget) (d_prices_with : Has P w K mg base CX0 "prices_with" ["debate", "weights", "statement"] 4 (sp_prices_with C))  :
    Has P w K mg base CX0 "least_budget" ["debate", "weights", "statement"] 5 (sp_least_budget C) := by
  obtain ⟨f, fd, F, m⟩ := d
  have sc := sc_least_budget
  refine ⟨f, fd, F.ok (k := 4) sc (fun vs H Q E h => (by first | (obtain ⟨h, _⟩ := h; rw [h]; rfl) | (obtain ⟨_, h, _⟩ := h; rw [h]; rfl) | (obtain ⟨_, _, h, _⟩ := h; rw [h]; rfl) | (obtain ⟨_, _, _, h, _⟩ := h; rw [h]; rfl) | (obtain ⟨_, _, _, _, h, _⟩ := h; rw [h]; rfl) | (obtain ⟨_, _, _, _, _, h, _⟩ := h; rw [h]; rfl) | (obtain ⟨_, _, _, _, _, _, h, _⟩ := h; rw [h]; rfl) | (obtain ⟨_, _, _, _, _, _, _, h, _⟩ := h; rw [h]; rfl) | (obtain ⟨_, _, _, _, _, _, _, _, h, _⟩ := h; rw [h]; rfl) | (obtain ⟨_, _, _, _, _, _, _, _, _, h, _⟩ := h; rw [h]; rfl) | (obtain ⟨_, _, _, _, _, _, _, _, _, _, h, _⟩ := h; rw [h]; rfl))) (fun cdv A outer s H vs Q E hr h => ?_), m, F.kp, F.binds fun _ _ _ _ _ _ us hl => match us, hl with | [_, _, _], _ => rfl⟩
  obtain ⟨m, ns, ps, v, wt, x, rfl, dm, hw, hln, hx, q⟩ := h
  refine ⟨_, ((pss_one (ps_ret (pe_callB (cr_min (α := Int) rfl (by decide) (by intro x; exact fun h => nomatch h) (hu64 hr)) (by rfl) T.b_min (by decide +kernel) (pa_cons (pe_lc (own := [("price", 3), ("lot", 4)]) rfl sc.nd (pi_listK K rfl (pe_has d_prices_with (hr.mono (by decide)) pass0 (by exact (pa_cons (pv 0) (pa_cons (pv 1) (pa_cons (pv 2) pa_nil)))))) (blkOk_by (own := [("price", 3), ("lot", 4)]) (N := ["debate", "weights", "statement", "price", "lot"]) (sc := defScope s_least_budget) (by decide +kernel)) (fun _ _ _ _ _ => (pg_tupK (n := 2) K rfl rfl (pgs_cons (pg_name (i := 3) sc.nd rfl (by first | exact Or.inl rfl | exact Or.inr rfl)) (pgs_cons (pg_name (i := 4) sc.nd rfl (by first | exact Or.inl rfl | exact Or.inr rfl)) pgs_nil)))) (fun _ _ _ _ _ => pts_nil) (fun _ _ _ _ _ => (pv 3))) pa_nil))))), ?_⟩
  refine ⟨_, rfl, _, rfl, _, rfl, m, ns, ps, v, wt, x, rfl, dm, hw, hln, hx, fun p1 H1 hp1 e1 hA1 => ?_⟩
  obtain ⟨vs, hl, hE⟩ := Each.ofAt hA1
  have lot : ((pricesF wt ns ps).filter fun z => decide (x ∈ z.2)).length ≤ 4096 := by
    refine Nat.le_trans (List.length_filter_le _ _) ?_
    unfold pricesF; rw [List.length_map, srt_length]; exact Nat.le_trans (allP_len _) (Nat.le_trans (Nat.pow_le_pow_right (by decide) hln) (by decide))
  refine ⟨p1, rfl, ⟨_, SqL.of hl⟩, fun Dd hD => lcL (R := fun _ v z => At H1 v z) (S := InR) (f := fun z => some z.1) ⟨fun _ _ _ _ _ h => h⟩ in_stays (fun _ e => SqL.of (e _ _ hl)) hE hD (by omega) (fun u z H2 e2 hu hz Kn Ky kn ky => ?_) (fun H2 md => ?_)⟩
  · obtain ⟨t, a, c, rfl, ht, ha, hc⟩ := id hu
    have ha' : a = .int z.1 := ha
    subst ha'
    exact ⟨t, _, rfl, SqT.of (e2 _ _ ht), rfl, _, _, rfl, _, _, rfl, ⟨rfl, rfl, _, rfl, ky _ z.1 _ (Ex.refl _) rfl fun _ _ _ => rfl⟩⟩
  · rw [fm_map] at md
    obtain ⟨hn, ex, ws2, hD', hw2⟩ := md
    rw [ints_eq hw2] at hD'
    have nE : ((pricesF wt ns ps).filter fun z => decide (x ∈ z.2)) ≠ [] := fun h0 => by
      have h1 : (goneW wt (overH ps ns), ns) ∈ pricesF wt ns ps := List.mem_map.mpr ⟨ns, (srt_perm _).mem_iff.mpr (by have := allP_filter (fun _ => true) ns; rwa [List.filter_eq_self.mpr fun _ _ => rfl] at this), rfl⟩
      have h2 : (goneW wt (overH ps ns), ns) ∈ (pricesF wt ns ps).filter fun z => decide (x ∈ z.2) := List.mem_filter.mpr ⟨h1, decide_eq_true hx⟩
      rw [h0] at h2
      cases h2
    cases hf : (((pricesF wt ns ps).filter fun z => decide (x ∈ z.2)).map fun z => z.1) with
    | nil => exact absurd (List.map_eq_nil_iff.mp hf) nE
    | cons i is =>
      rw [hf] at hD'
      refine ⟨_, i, is, rfl, at_list hD' (ints_each _), fun u hu => ?_⟩
      have hu' : u = .int (minA i is) := hu
      subst hu'
      refine q _ _ (e1.trans ex) fun z hz hxz => minA_int is i z.1 ?_
      rw [← hf]
      exact List.mem_map.mpr ⟨z, List.mem_filter.mpr ⟨hz, decide_eq_true hxz⟩, rfl⟩
end
end K73
set_option maxRecDepth 100000
set_option maxHeartbeats 4000000
namespace K73
open Enc (At enc)
open PySem L2 Evl
/-- the objections that a new statement y makes, to answer for x -/
def ansP (ps : List Pr) (x y : Str) : List Pr := ((objectors ps x).filter fun o => !decide (o = x)).map fun o => (y, o)
theorem objectors_nodup {ps : List Pr} (h : ps.Nodup) (n : Str) : (objectors ps n).Nodup := by
  unfold objectors
  induction ps with
  | nil => exact List.nodup_nil
  | cons p ps ih =>
    obtain ⟨h1, h2⟩ := List.nodup_cons.mp h
    rw [List.filter_cons]
    by_cases e : p.2 = n
    · rw [if_pos (decide_eq_true e), List.map_cons, List.nodup_cons]
      refine ⟨fun hm => h1 ?_, ih h2⟩
      have hm' : p.1 ∈ objectors ps n := hm
      have := mem_objectors.mp hm'
      rw [← e] at this
      exact this
    · rw [if_neg (by simpa using e)]
      exact ih h2
theorem map_nodup {α β : Type} {f : α → β} (hf : ∀ a b, f a = f b → a = b) : ∀ {l : List α}, l.Nodup → (l.map f).Nodup
  | [], _ => List.nodup_nil
  | a :: l, h => by
    obtain ⟨h1, h2⟩ := List.nodup_cons.mp h
    rw [List.map_cons, List.nodup_cons]
    refine ⟨fun hm => ?_, map_nodup hf h2⟩
    obtain ⟨b, hb, e⟩ := List.mem_map.mp hm
    exact h1 (hf _ _ e ▸ hb)
theorem ansP_nodup {ps : List Pr} (h : ps.Nodup) (x y : Str) : (ansP ps x y).Nodup := map_nodup (fun a b e => (Prod.mk.inj e).2) ((objectors_nodup h x).filter _)
theorem ansP_mem {ps : List Pr} {x y : Str} {p : Pr} (h : p ∈ ansP ps x y) : p.1 = y ∧ (p.2, x) ∈ ps ∧ p.2 ≠ x := by
  obtain ⟨o, ho, rfl⟩ := List.mem_map.mp h
  obtain ⟨h1, h2⟩ := List.mem_filter.mp ho
  exact ⟨rfl, mem_objectors.mp h1, by simpa using h2⟩
theorem ansP_in {ps : List Pr} {x y o : Str} (h : (o, x) ∈ ps) (hne : o ≠ x) : (y, o) ∈ ansP ps x y :=
  List.mem_map.mpr ⟨o, List.mem_filter.mpr ⟨mem_objectors.mpr h, by simpa using hne⟩, rfl⟩
theorem nodup_app {α : Type} {l m : List α} (h1 : l.Nodup) (h2 : m.Nodup) (h : ∀ x ∈ l, x ∉ m) : (l ++ m).Nodup := by
  rw [List.nodup_append]
  exact ⟨h1, h2, fun a ha b hb e => h a ha (e ▸ hb)⟩
/-- no fresh name is given -/
def BadNm (H : Hp) (v : V) (ns : List Str) : Prop := (∃ k, Knd H v k) ∧ (∀ x, v = .str x → x.length ≤ 1000) ∧ (nmV v = false ∨ ∃ y, v = .str y ∧ y ∈ ns)
theorem BadNm.mono {H H' : Hp} {v : V} {ns : List Str} (e : Ex H H') (h : BadNm H v ns) : BadNm H' v ns := ⟨let ⟨k, z⟩ := h.1; ⟨k, z.mono e⟩, h.2⟩
section
variable {P : Program} {w : World} {K : PySem.W.Frag} {mg : Str → Option Value} {base : Heap} {C C_NoStatement C_BadWeights C_BadName : Addr}
abbrev s_with_answer : Stmt := top 47
theorem sc_with_answer : FnScope ["debate", "statement", "name", "one", "pairs", "objector"] ["debate", "statement", "name"] (defScope s_with_answer) := ⟨rfl, rfl, rfl, by decide +kernel, rfl, by decide +kernel, by decide +kernel⟩
def sp_with_answer (C NS BN : Addr) : Sp := fun vs H Q E => ∃ (m : Addr) (ns : List Str) (ps : List Pr) (u v : V), vs = [.ref m, u, v] ∧ Deb C H m ns ps ∧
  ((∃ x y, u = .str x ∧ x ∈ ns ∧ v = .str y ∧ isNm y = true ∧ y ∉ ns ∧ ns.length < 1000 ∧ ps.length ≤ 500 ∧ ∀ m' H', H m' = none → Ex H H' → Deb C H' m' (srt (ns ++ [y])) (srt (ps ++ ansP ps x y)) → Q (.ref m') H') ∨
   (NoSt H u ns ∧ ∀ d, H d = none → E (.ref NS) (some d) (upd H d (.xd [("thing", u)]))) ∨
   (∃ x, u = .str x ∧ x ∈ ns ∧ BadNm H v ns ∧ ∀ d H', Ex H H' → H' d = none → E (.ref BN) (some d) (upd H' d (.xd [("thing", v)]))))
theorem has_with_answer (T : Txt K mg) (d : Def K mg "with_answer" s_with_answer) (d_checked_statement : Has P w K mg base (L2.CX P w) "checked_statement" ["debate", "statement"] 3 (sp_checked_statement C C_NoStatement)) (d_BadName : HasErr P w K mg base "BadName" "thing" C_BadName) (d_Debate : HasMk P w K mg base C 5 (sp_init C)) (d_is_name : Has P w K mg base CX0 "is_name" ["thing"] 1 sp_is_name) (D : DTxt K mg C) :
    Has P w K mg base (L2.CX P w) "with_answer" ["debate", "statement", "name"] 7 (sp_with_answer C C_NoStatement C_BadName) ∧ HasKw P w K mg base (L2.CX P w) "with_answer" ["debate", "statement", "name"] 7 (sp_with_answer C C_NoStatement C_BadName) := by
  obtain ⟨f, fd, F, m⟩ := d
  have sc := sc_with_answer
  suffices ok : FnOk P w K mg base (L2.CX P w) 7 f fd ["debate", "statement", "name"] (sp_with_answer C C_NoStatement C_BadName) from ⟨⟨f, fd, ok, m, F.kp, F.binds fun _ _ _ _ _ _ us hl => match us, hl with | [_, _, _], _ => rfl⟩, ⟨f, fd, ok, m, F.kp, kbR F fun _ _ _ _ _ _ _ _ _ => rfl⟩⟩
  refine F.okX (k := 6) sc (fun vs H Q E h => (by first | (obtain ⟨h, _⟩ := h; rw [h]; rfl) | (obtain ⟨_, h, _⟩ := h; rw [h]; rfl) | (obtain ⟨_, _, h, _⟩ := h; rw [h]; rfl) | (obtain ⟨_, _, _, h, _⟩ := h; rw [h]; rfl) | (obtain ⟨_, _, _, _, h, _⟩ := h; rw [h]; rfl) | (obtain ⟨_, _, _, _, _, h, _⟩ := h; rw [h]; rfl) | (obtain ⟨_, _, _, _, _, _, h, _⟩ := h; rw [h]; rfl) | (obtain ⟨_, _, _, _, _, _, _, h, _⟩ := h; rw [h]; rfl) | (obtain ⟨_, _, _, _, _, _, _, _, h, _⟩ := h; rw [h]; rfl) | (obtain ⟨_, _, _, _, _, _, _, _, _, h, _⟩ := h; rw [h]; rfl) | (obtain ⟨_, _, _, _, _, _, _, _, _, _, h, _⟩ := h; rw [h]; rfl))) (fun cdv A outer s H vs Q E hr h => ?_)
  obtain ⟨m, ns, ps, u, v, rfl, dm, q⟩ := h
  refine ⟨_, ((pss_cons (ps_set (i := 3) sc.nd rfl (by first | exact Or.inl rfl | exact Or.inr rfl) (pe_has d_checked_statement (hr.mono (by decide)) (passes_call (takes_of rfl rfl rfl rfl) (fun _ _ _ _ h => h)) (by exact (pa_cons (pv 0) (pa_cons (pv 1) pa_nil)))))
    (pss_cons (ps_if (PW.pt (pw_or (pt_not (pt_val (pe_has d_is_name (hr.mono (by decide)) pass0 (by exact (pa_cons (pv 2) pa_nil))))) (pw_or1 (pt_cmpR (op_inA (α := Str) (by decide) (hu65 hr)) (pv 2) (pe_fldK K rfl (pv 0) rfl) (by rfl)))))
      (pss_one (ps_raiseX d_BadName (hr.mono (by decide)) (takes_of rfl rfl rfl rfl) (by exact (pa_cons (pv 2) pa_nil))))
      pss_nil)
    (pss_cons (ps_setLc (i := 4) (own := [("objector", 5)]) rfl sc.nd rfl rfl (sw_true rfl rfl rfl (by decide +kernel)) (pi_listK K rfl (pe_dget (hu_of hr) (pe_fldK K rfl (pv 0) rfl) (pv 3) (fun _ _ => rfl))) (blkOk_by (own := [("objector", 5)]) (N := ["debate", "statement", "name", "one", "pairs", "objector"]) (sc := defScope s_with_answer) (by decide +kernel)) (fun _ _ _ _ _ => (pg_name (i := 5) sc.nd rfl (by first | exact Or.inl rfl | exact Or.inr rfl))) (fun _ _ _ _ _ => (pts_one (pt_cmpR op_ne (pv 5) (pv 3) (nomark _)))) (fun _ _ _ _ _ => (pe_tup (pa_cons (pv 2) (pa_cons (pv 5) pa_nil)))))
    (pss_one (ps_ret (pe_hasMk d_Debate (hr.mono (by decide)) pass0 (by exact (pa_cons (pe_op op_cat (pe_fldK K rfl (pv 0) rfl) (pe_lst (pa_cons (pv 2) pa_nil))) (pa_cons (pe_op op_cat (pe_fldK K rfl (pv 0) rfl) (pv 4)) pa_nil)))))))))), ?_⟩
  obtain ⟨dx, l1, l2, d1, d2, a1, a2, ws, hm, h1, h2, hW, h3, h4, h5, h6⟩ := dm.ex
  rcases q with ⟨x, y, rfl, hx, rfl, hy, hyn, ln, lp, q⟩ | ⟨hn, q⟩ | ⟨x, rfl, hx, ⟨⟨k, hk⟩, hlen, hbad⟩, q⟩
  · refine ⟨_, rfl, _, rfl, m, ns, ps, .str x, rfl, dm, Or.inl ⟨x, rfl, hx, ?_⟩⟩
    have yok := nm_ok hy
    have ylen := nm_len hy
    refine ⟨_, rfl, _, .str, rfl, .str y, fun z hz => by cases hz; omega, fun H1 e1 => ⟨_, rfl, ?_⟩⟩
    have nmy : nmV (.str y) = true := hy
    rw [nmy]
    refine iteF ⟨_, rfl, _, rfl, m, C, dx, _, .ref l1, rfl, e1 _ _ hm, D.cl, D.nS, look_S _ _ _ _, y, ns, at_str yok, dm.nms.at_ (e1 _ _ h1), _, rfl, iteDn hyn ?_⟩
    have g1 : DGet H1 d1 (.str x) (some (.ref (a1 x))) := .inl ⟨_, .inr x, .inl (e1 _ _ h3), rfl, (valV_rows hx).symm⟩
    have hr := e1 _ _ (h5 x hx)
    have ol := objectors_len ps x
    refine ⟨_, rfl, m, C, dx, _, .ref d1, rfl, e1 _ _ hm, D.cl, D.nR, look_R _ _ _ _, _, rfl, d1, _, rfl, g1, a1 x, rfl, ⟨_, SqL.of hr⟩, fun Dd hD => ?_⟩
    refine lcL (R := StR) (S := (At : Rel Pr)) (f := fun o => if (!decide (o = x)) = true then some (y, o) else none) (xs := objectors ps x) st_stays at_stays (fun _ e => SqL.of (e _ _ hr)) (strs_self _) hD (by omega) (fun z o H2 e2 hz ho Kn Ky kn ky => ?_) (fun H2 md => ?_)
    · have hz' : z = .str o := hz
      subst hz'
      have ook := dm.nms.ok o (dm.mem _ (mem_objectors.mp ho)).1
      refine ⟨rfl, _, rfl, _, rfl, rfl, _, rfl, ?_⟩
      by_cases hb : o = x
      · exact iteND (congrArg V.str hb) (kn _ (Ex.refl _) (by simp [hb]))
      · refine iteNDn (fun h => hb (V.str.inj h)) ⟨_, rfl, _, rfl, (by show 2 ≤ sizeLine; decide), fun t ht => ky _ (y, o) _ (Ex.new ht) (by simp [hb]) fun G eG gG => ?_⟩
        exact at_pair (gG t _ ht upd_same) (at_str yok) (at_str ook)
    · rw [fm_ifm] at md
      obtain ⟨hn, ex, ws2, hD', hw2⟩ := md
      have hw2' : Each H2 ws2 (ansP ps x y) := Each.mono del_sub hw2
      have e2 := e1.trans ex
      have s1 : (100001 : Nat) < sizeLine := by decide
      have al : (ansP ps x y).length ≤ 500 := by
        unfold ansP
        rw [List.length_map]
        exact Nat.le_trans (List.length_filter_le _ _) (Nat.le_trans ol lp)
      have wl2 := hw2'.length
      have wl := hW.length
      refine ⟨_, rfl, m, C, dx, _, .ref l1, rfl, e2 _ _ hm, D.cl, D.nS, look_S _ _ _ _, _, rfl, (by show 1 ≤ sizeLine; decide), fun q1 hq1 => ⟨l1, q1, _, [.str y], rfl, rfl, (Ex.new hq1) _ _ (e2 _ _ h1), upd_same, (by rw [List.length_map]; show ns.length + 1 ≤ sizeLine; omega), fun q2 hq2 => ?_⟩⟩
      have e3 : Ex H2 (upd (upd H2 q1 (.lst [.str y])) q2 (.lst (ns.map V.str ++ [.str y]))) := (Ex.new hq1).trans (Ex.new hq2)
      have hs3 : (upd (upd H2 q1 (.lst [.str y])) q2 (.lst (ns.map V.str ++ [.str y]))) q2 = some (.lst (ns.map V.str ++ [.str y])) := upd_same
      generalize upd (upd H2 q1 (.lst [.str y])) q2 (.lst (ns.map V.str ++ [.str y])) = H3 at e3 hs3
      have e03 := e2.trans e3
      refine ⟨_, rfl, m, C, dx, _, .ref l2, rfl, e03 _ _ hm, D.cl, D.nO, look_O _ _ _ _, _, rfl, l2, Dd, ws, ws2, rfl, rfl, e03 _ _ h2, e3 _ _ hD', by omega, fun q3 hq3 => ?_⟩
      have e4 : Ex H3 (upd H3 q3 (.lst (ws ++ ws2))) := Ex.new hq3
      have hs4 : (upd H3 q3 (.lst (ws ++ ws2))) q3 = some (.lst (ws ++ ws2)) := upd_same
      generalize upd H3 q3 (.lst (ws ++ ws2)) = H4 at e4 hs4
      have hE4 : Each H4 (ws ++ ws2) (ps ++ ansP ps x y) := (hW.mono (e03.trans e4)).append (hw2'.mono (e3.trans e4))
      have hs3' := e4 _ _ hs3
      intro m' dx' hm' hdx' hne
      have eM := made_ex (C := C) hm' hdx' hne
      have eI : Ex H4 (upd (upd H4 dx' (.own m')) m' (.ins C dx' [])) := eM.trans del_sub
      have e04 := e03.trans e4
      refine ⟨m', dx', q2, .ref q3, ns ++ [y], ps ++ ansP ps x y, rfl, upd_same, ?_, nodup_app dm.nd (by simp) (fun z hz hz' => hyn (by rw [← List.mem_singleton.mp hz']; exact hz)), fun n hn => ?_, by rw [List.length_append, List.length_singleton]; omega, ⟨q3, ws ++ ws2, rfl, Or.inl (eM _ _ hs4), each_lp (hE4.mono eM)⟩, nodup_app dm.ndp (ansP_nodup dm.ndp x y) (fun p hp hp' => hyn (by rw [← (ansP_mem hp').1]; exact (dm.mem p hp).1)), fun p hp => ?_, by rw [List.length_append]; omega, fun H' eH dH => ⟨rfl, q m' H' (fresh_back e04 hm') (e04.trans (eM.trans eH)) (dH H' (fun _ _ _ h => h) fun _ _ h => h)⟩⟩
      · rw [List.map_append]
        exact eI _ _ hs3'
      · rcases List.mem_append.mp hn with g | g
        · exact dm.nms n g
        · rw [List.mem_singleton.mp g]; exact hy
      · rcases List.mem_append.mp hp with g | g
        · exact ⟨List.mem_append_left _ (dm.mem p g).1, List.mem_append_left _ (dm.mem p g).2⟩
        · obtain ⟨g1, g2, _⟩ := ansP_mem g
          exact ⟨List.mem_append_right _ (by rw [g1]; exact List.mem_singleton.mpr rfl), List.mem_append_left _ (dm.mem _ g2).1⟩
  · exact ⟨_, rfl, _, rfl, m, ns, ps, u, rfl, dm, Or.inr ⟨(let ⟨k, z⟩ := hn.1; ⟨k, z, hn.2⟩), q⟩⟩
  · refine ⟨_, rfl, _, rfl, m, ns, ps, .str x, rfl, dm, Or.inl ⟨x, rfl, hx, ⟨_, rfl, v, k, rfl, hk, hlen, fun H1 e1 => ⟨_, rfl, ?_⟩⟩⟩⟩
    rcases hbad with hb | ⟨y, rfl, hy⟩
    · rw [hb]
      exact iteT ⟨_, rfl, err_ok fun d hd => q d H1 e1 hd⟩
    · cases hb : nmV (.str y) with
      | false => exact iteT ⟨_, rfl, err_ok fun d hd => q d H1 e1 hd⟩
      | true => exact iteF ⟨_, rfl, _, rfl, m, C, dx, _, .ref l1, rfl, e1 _ _ hm, D.cl, D.nS, look_S _ _ _ _, y, ns, at_str (dm.nms.ok y hy), dm.nms.at_ (e1 _ _ h1), _, rfl, iteD hy ⟨_, rfl, err_ok fun d hd => q d H1 e1 hd⟩⟩
end
end K73
set_option maxRecDepth 100000
set_option maxHeartbeats 4000000
namespace K73
open Enc (At enc)
open PySem L2 Evl
/-! ### the stream -/
/-- the heap without the stream's two objects -/
def off (st cl : Addr) (H : Hp) : Hp := del (del H st) cl
theorem off_sub {st cl : Addr} {H : Hp} : Ex (off st cl H) H := fun b o q => del_sub _ _ (del_sub _ _ q)
theorem off_mono {st cl : Addr} {H H' : Hp} (e : Ex H H') : Ex (off st cl H) (off st cl H') := del_ex (del_ex e)
theorem off_st {st cl : Addr} {H : Hp} : off st cl H st = none := by
  unfold off
  by_cases h : st = cl
  · rw [h, del_same]
  · rw [del_ne h, del_same]
theorem off_cl {st cl : Addr} {H : Hp} : off st cl H cl = none := del_same
theorem off_ne {st cl b : Addr} {H : Hp} (h1 : b ≠ st) (h2 : b ≠ cl) : off st cl H b = H b := by
  unfold off
  rw [del_ne h2, del_ne h1]
/-- what is told of the heap without the stream stays told without the stream -/
theorem off_in {st cl : Addr} {G H : Hp} (e : Ex G H) (h1 : G st = none) (h2 : G cl = none) : Ex G (off st cl H) := ex_del (ex_del e h1) h2
theorem off_up {st cl : Addr} {H H' : Hp} (e : Ex (off st cl H) H') : Ex (off st cl H) (off st cl H') := off_in e off_st off_cl
/-- the stream stands at st, its cells at cl; at most B draws were made -/
def Stm (H : Hp) (st cl : Addr) (B : Nat) : Prop := st ≠ cl ∧ ∃ (cs : List Int) (n1 n2 n3 : Int), H st = some (.lst [.ref cl, .int n1, .int n2, .int n3]) ∧ H cl = some (.lst (cs.map V.int)) ∧ 0 ≤ n2 ∧ n2 ≤ B ∧ 0 ≤ n3 ∧ n3 < 2147483648
theorem Stm.mono {H H' : Hp} {st cl : Addr} {B : Nat} (e : Ex H H') (h : Stm H st cl B) : Stm H' st cl B := let ⟨h0, cs, n1, n2, n3, h1, h2, h3⟩ := h; ⟨h0, cs, n1, n2, n3, e _ _ h1, e _ _ h2, h3⟩
theorem Stm.le {H : Hp} {st cl : Addr} {B B' : Nat} (h : Stm H st cl B) (hb : B ≤ B') : Stm H st cl B' := let ⟨h0, cs, n1, n2, n3, h1, h2, h3, h4, h5⟩ := h; ⟨h0, cs, n1, n2, n3, h1, h2, h3, by omega, h5⟩
/-- a new object stands apart from the stream -/
theorem Stm.ne {H : Hp} {st cl p : Addr} {B : Nat} (h : Stm H st cl B) (hp : H p = none) : p ≠ st ∧ p ≠ cl := by
  obtain ⟨_, cs, n1, n2, n3, h1, h2, _⟩ := h
  constructor
  · intro e
    rw [e, h1] at hp
    cases hp
  · intro e
    rw [e, h2] at hp
    cases hp
theorem Stm.new {H : Hp} {st cl p : Addr} {B : Nat} {o : HO} (h : Stm H st cl B) (hp : H p = none) : Ex (off st cl H) (off st cl (upd H p o)) ∧ off st cl (upd H p o) p = some o := by
  obtain ⟨h1, h2⟩ := h.ne hp
  exact ⟨off_mono (Ex.new hp), by rw [off_ne h1 h2, upd_same]⟩
theorem fmod_in (i : Int) {j : Int} (h : 0 < j) : 0 ≤ i.fmod j ∧ i.fmod j < j := ⟨Int.fmod_nonneg_of_pos i h, Int.fmod_lt_of_pos i h⟩
/-- the stream as it stands, all else from G -/
structure SdP (G : Hp) (st cl : Addr) (H' : Hp) (cs : List Int) (n1 n2 n3 : Int) : Prop where
  ex : Ex G H'
  a : H' st = some (.lst [.ref cl, .int n1, .int n2, .int n3])
  b : H' cl = some (.lst (cs.map V.int))
section
variable {G H' : Hp} {st cl : Addr} {cs : List Int} {n1 n2 n3 : Int}
theorem SdP.new (h : SdP G st cl H' cs n1 n2 n3) {p : Addr} {o : HO} (hp : H' p = none) : SdP G st cl (upd H' p o) cs n1 n2 n3 := ⟨h.ex.trans (Ex.new hp), Ex.new hp _ _ h.a, Ex.new hp _ _ h.b⟩
theorem SdP.setCl (h : SdP G st cl H' cs n1 n2 n3) (hn : st ≠ cl) (hg : G cl = none) (cs2 : List Int) {l : List V} (hl : l = cs2.map V.int) : SdP G st cl (upd H' cl (.lst l)) cs2 n1 n2 n3 :=
  ⟨Ex.mut h.ex hg, by rw [upd_ne hn]; exact h.a, by rw [upd_same, hl]⟩
theorem SdP.setSt (h : SdP G st cl H' cs n1 n2 n3) (hn : st ≠ cl) (hg : G st = none) {m1 m2 m3 : Int} {l : List V} (hl : l = [.ref cl, .int m1, .int m2, .int m3]) : SdP G st cl (upd H' st (.lst l)) cs m1 m2 m3 :=
  ⟨Ex.mut h.ex hg, by rw [upd_same, hl], by rw [upd_ne hn.symm]; exact h.b⟩
end
theorem seq0 {n : Nat} (h : 0 < n) : seqIndex? 0 n = some 0 := by
  unfold seqIndex?
  simp
  omega
section
variable {P : Program} {w : World} {K : PySem.W.Frag} {mg : Str → Option Value} {base : Heap}
abbrev s_law_draw : Stmt := top 65
theorem sc_law_draw : FnScope ["_law_stream", "_law_many", "_law_cell", "_law_digit", "_law_mixed_here"] ["_law_stream", "_law_many"] (defScope s_law_draw) := ⟨rfl, rfl, rfl, by decide +kernel, rfl, by decide +kernel, by decide +kernel⟩
def sp_law_draw : Sp := fun vs H Q _ => ∃ (st cl : Addr) (B : Nat) (many : Int), vs = [.ref st, .int many] ∧ Stm H st cl B ∧ B < 2 ^ 40 ∧ 0 < many ∧ many < 2 ^ 29 ∧
  ∀ H' r, Ex (off st cl H) H' → Stm H' st cl (B + 1) → 0 ≤ r → r < many → Q (.int r) H'
theorem has_law_draw (T : Txt K mg) (d : Def K mg "_law_draw" s_law_draw)   :
    Has P w K mg base CX0 "_law_draw" ["_law_stream", "_law_many"] 1 sp_law_draw := by
  obtain ⟨f, fd, F, m⟩ := d
  have sc := sc_law_draw
  refine ⟨f, fd, F.ok (k := 0) sc (fun vs H Q E h => (by first | (obtain ⟨h, _⟩ := h; rw [h]; rfl) | (obtain ⟨_, h, _⟩ := h; rw [h]; rfl) | (obtain ⟨_, _, h, _⟩ := h; rw [h]; rfl) | (obtain ⟨_, _, _, h, _⟩ := h; rw [h]; rfl) | (obtain ⟨_, _, _, _, h, _⟩ := h; rw [h]; rfl) | (obtain ⟨_, _, _, _, _, h, _⟩ := h; rw [h]; rfl) | (obtain ⟨_, _, _, _, _, _, h, _⟩ := h; rw [h]; rfl) | (obtain ⟨_, _, _, _, _, _, _, h, _⟩ := h; rw [h]; rfl) | (obtain ⟨_, _, _, _, _, _, _, _, h, _⟩ := h; rw [h]; rfl) | (obtain ⟨_, _, _, _, _, _, _, _, _, h, _⟩ := h; rw [h]; rfl) | (obtain ⟨_, _, _, _, _, _, _, _, _, _, h, _⟩ := h; rw [h]; rfl))) (fun cdv A outer s H vs Q E hr h => ?_), m, F.kp, F.binds fun _ _ _ _ _ _ us hl => match us, hl with | [_, _], _ => rfl⟩
  obtain ⟨st, cl, B, many, rfl, ⟨hne, cs, n1, n2, n3, h1, h2, b1, b2, b3, b4⟩, hB, hm, hm2, q⟩ := h
  refine ⟨_, ((pss_cons (ps_asg (pe_op op_add (pe_ix (ix_listK K rfl) (pv 0) pe_int (fun _ _ => rfl)) pe_int) (pg_sub (pv 0) pe_int set_list))
    (pss_cons (ps_while PassesOwn.never (PW.pt (pw_and (pt_cmpR op_eq (pe_ix (ix_listK K rfl) (pv 0) pe_int (fun _ _ => rfl)) pe_int (nomark _)) (pw_and1 (pt_cmpR (op_neA (α := List Int) (by decide) (hu64 hr)) (pe_ix (ix_listK K rfl) (pv 0) pe_int (fun _ _ => rfl)) (pe_lst pa_nil) (nomark _)))))
      (pss_cons (ps_set (i := 2) sc.nd rfl (by first | exact Or.inl rfl | exact Or.inr rfl) (pe_bmK K rfl PySem.F.plainAttrs_list PySem.F.slot_list_pop PySem.F.type_list_pop mt_popAt (pe_ix (ix_listK K rfl) (pv 0) pe_int (fun _ _ => rfl)) (pa_cons pe_int pa_nil)))
      (pss_cons (ps_asg (pe_op op_modN (pe_callTy call_int1 (by rfl) T.b_int (by decide +kernel) (pa_cons (pe_op op_add (pe_op op_add (pe_op op_mul (pe_ix (ix_listK K rfl) (pv 0) pe_int (fun _ _ => rfl)) pe_int) (pv 2)) pe_int) pa_nil)) pe_int) (pg_sub (pv 0) pe_int set_list))
      (pss_one (ps_asg (pe_ifExp (pt_cmpR op_ge (pv 2) (pe_op op_pow pe_int pe_int) (nomark _)) (pv 2) pe_int) (pg_sub (pv 0) pe_int set_list))))))
    (pss_cons (ps_if (pt_cmpR op_gt (pe_ix (ix_listK K rfl) (pv 0) pe_int (fun _ _ => rfl)) pe_int (nomark _))
      (pss_cons (ps_set (i := 3) sc.nd rfl (by first | exact Or.inl rfl | exact Or.inr rfl) (pe_op op_modN (pe_callTy call_int1 (by rfl) T.b_int (by decide +kernel) (pa_cons (pe_ix (ix_listK K rfl) (pv 0) pe_int (fun _ _ => rfl)) pa_nil)) (pv 1)))
      (pss_cons (ps_asg (pe_op op_fdivN (pe_ix (ix_listK K rfl) (pv 0) pe_int (fun _ _ => rfl)) (pv 1)) (pg_sub (pv 0) pe_int set_list))
      (pss_one (ps_ret (pv 3)))))
      pss_nil)
    (pss_cons (ps_set (i := 4) sc.nd rfl (by first | exact Or.inl rfl | exact Or.inr rfl) (pe_op op_modN (pe_callTy call_int1 (by rfl) T.b_int (by decide +kernel) (pa_cons (pe_op op_pow (pe_op op_add (pe_op op_add (pe_ix (ix_listK K rfl) (pv 0) pe_int (fun _ _ => rfl)) (pe_op op_mul pe_int (pe_ix (ix_listK K rfl) (pv 0) pe_int (fun _ _ => rfl)))) pe_int) pe_int) pa_nil)) pe_int))
    (pss_one (ps_ret (pe_op op_modN (pe_op op_modN (pe_callTy call_int1 (by rfl) T.b_int (by decide +kernel) (pa_cons (pe_op op_pow (pe_op op_add (pe_op op_add (pe_op op_mul (pv 4) pe_int) (pe_op op_mul pe_int (pe_ix (ix_listK K rfl) (pv 0) pe_int (fun _ _ => rfl)))) pe_int) pe_int) pa_nil)) pe_int) (pv 1))))))))), ?_⟩
  have gst := off_st (st := st) (cl := cl) (H := H)
  have gcl := off_cl (st := st) (cl := cl) (H := H)
  refine ⟨_, rfl, st, _, 2, .int n2, rfl, rfl, SqL.of h1, rfl, _, _, rfl, rfl, _, rfl, st, _, 2, 2, rfl, rfl, h1, rfl, ?_⟩
  have s0 : SdP (off st cl H) st cl (upd H st (.lst [.ref cl, .int n1, .int (n2 + 1), .int n3])) cs n1 (n2 + 1) n3 := ⟨Ex.mut off_sub gst, upd_same, by rw [upd_ne hne.symm]; exact h2⟩
  refine ⟨fun n σ H' => ∃ cs n1 n3 u2, cs.length = n ∧ σ = [some (.ref st), some (.int many), u2, none, none] ∧ SdP (off st cl H) st cl H' cs n1 (n2 + 1) n3 ∧ 0 ≤ n3 ∧ n3 < 2147483648, ⟨cs.length, cs, n1, n3, none, rfl, rfl, s0, b3, b4⟩, ?_⟩
  clear s0 h1 h2 b3 b4
  rintro n σ H' ⟨cs, n1, n3, u2, hn, rfl, S, b3, b4⟩
  -- after the loop
  have after : ∀ H2 u, SdP (off st cl H) st cl H2 cs n1 (n2 + 1) n3 → ∀ Dx : Ends, Dx.rt = Q → tSeq
                  (tIfS
                    (tTest
                      (tOp (rI0 fun i j => V.bl (decide (j < i))) (tOp (rIxL K) (tVar 0) (tC (V.int 1)))
                        (tC (V.int 0))))
                    (tSeq
                      (tAsg
                        (tOp (rI (fun _ j => j ≠ 0) fun i j => V.int (i.fmod j))
                          (tCB
                            (fun xs H Q =>
                              (∃ i, xs = [V.int i] ∧ Q (V.int i) H) ∨
                                ∃ k, xs = [V.bl k] ∧ Q (V.int (if k = true then 1 else 0)) H)
                            (tCons (tOp (rIxL K) (tVar 0) (tC (V.int 1))) tNil))
                          (tVar 1))
                        (gName 3))
                      (tSeq
                        (tAsg
                          (tOp (rI CDivN fun i j => V.int (i.fdiv j)) (tOp (rIxL K) (tVar 0) (tC (V.int 1))) (tVar 1))
                          (gSub (tVar 0) (tC (V.int 1)) rSetL))
                        (tRet (tVar 3))))
                    tNext)
                  (tSeq
                    (tAsg
                      (tOp (rI (fun _ j => j ≠ 0) fun i j => V.int (i.fmod j))
                        (tCB
                          (fun xs H Q =>
                            (∃ i, xs = [V.int i] ∧ Q (V.int i) H) ∨
                              ∃ k, xs = [V.bl k] ∧ Q (V.int (if k = true then 1 else 0)) H)
                          (tCons
                            (tOp (rI CPow fun i j => V.int (i ^ j.toNat))
                              (tOp (rI0 fun i j => V.int (i + j))
                                (tOp (rI0 fun i j => V.int (i + j)) (tOp (rIxL K) (tVar 0) (tC (V.int 3)))
                                  (tOp (rI CMul fun i j => V.int (i * j)) (tC (V.int 7919)) (tOp (rIxL K) (tVar 0) (tC (V.int 2)))))
                                (tC (V.int 104729)))
                              (tC (V.int 5)))
                            tNil))
                        (tC (V.int 2147483629)))
                      (gName 4))
                    (tRet
                      (tOp (rI (fun _ j => j ≠ 0) fun i j => V.int (i.fmod j))
                        (tOp (rI (fun _ j => j ≠ 0) fun i j => V.int (i.fmod j))
                          (tCB
                            (fun xs H Q =>
                              (∃ i, xs = [V.int i] ∧ Q (V.int i) H) ∨
                                ∃ k, xs = [V.bl k] ∧ Q (V.int (if k = true then 1 else 0)) H)
                            (tCons
                              (tOp (rI CPow fun i j => V.int (i ^ j.toNat))
                                (tOp (rI0 fun i j => V.int (i + j))
                                  (tOp (rI0 fun i j => V.int (i + j))
                                    (tOp (rI CMul fun i j => V.int (i * j)) (tVar 4) (tC (V.int 48271)))
                                    (tOp (rI CMul fun i j => V.int (i * j)) (tC (V.int 30011)) (tOp (rIxL K) (tVar 0) (tC (V.int 2)))))
                                  (tC (V.int 29)))
                                (tC (V.int 3)))
                              tNil))
                          (tC (V.int 1000000007)))
                        (tVar 1)))) Dx [some (.ref st), some (.int many), u, none, none] H2 := by
    intro H2 u S2 Dx hDx
    have mne : many ≠ 0 := by omega
    have fin : ∀ H3 r, SdP (off st cl H) st cl H3 cs r (n2 + 1) n3 → ∀ i : Int, Dx.rt (.int (i.fmod many)) H3 := fun H3 r S3 i => by
      rw [hDx]
      exact q H3 _ S3.ex ⟨hne, cs, r, n2 + 1, n3, S3.a, S3.b, by omega, by omega, b3, b4⟩ (fmod_in i hm).1 (fmod_in i hm).2
    refine ⟨_, rfl, st, _, 1, .int n1, rfl, rfl, SqL.of S2.a, rfl, _, _, rfl, rfl, _, rfl, ?_⟩
    by_cases hp : 0 < n1
    · refine iteD hp ⟨_, rfl, st, _, 1, .int n1, rfl, rfl, SqL.of S2.a, rfl, Or.inl ⟨_, rfl, _, rfl, _, _, rfl, rfl, mne, _, rfl, st, _, 1, .int n1, rfl, rfl, SqL.of S2.a, rfl, _, rfl, _, _, rfl, rfl, ⟨mne, by omega⟩, _, rfl, st, _, 1, 1, rfl, rfl, S2.a, rfl, _, rfl, ?_⟩⟩
      exact fin _ _ (S2.setSt hne gst rfl) n1
    · have a1 : (n3 + 7919 * (n2 + 1) + 104729).natAbs < 2 ^ 64 := by omega
      have m1 := fmod_in ((n3 + 7919 * (n2 + 1) + 104729) ^ (5 : Int).toNat) (j := 2147483629) (by decide)
      refine iteDn hp ⟨_, rfl, st, _, 3, .int n3, rfl, rfl, SqL.of S2.a, rfl, _, rfl, st, _, 2, .int (n2 + 1), rfl, rfl, SqL.of S2.a, rfl, _, _, rfl, rfl, Or.inl ⟨by omega, by omega⟩, _, _, rfl, rfl, _, _, rfl, rfl, _, _, rfl, rfl, ⟨by decide, by decide, a1⟩, Or.inl ⟨_, rfl, _, _, rfl, rfl, (show (2147483629 : Int) ≠ 0 by decide), ?_⟩⟩
      have a2 : (((n3 + 7919 * (n2 + 1) + 104729) ^ (5 : Int).toNat).fmod 2147483629 * 48271 + 30011 * (n2 + 1) + 29).natAbs < 2 ^ 64 := by omega
      exact ⟨_, rfl, _, _, rfl, rfl, Or.inl ⟨by omega, by omega⟩, _, rfl, st, _, 2, .int (n2 + 1), rfl, rfl, SqL.of S2.a, rfl, _, _, rfl, rfl, Or.inl ⟨by omega, by omega⟩, _, _, rfl, rfl, _, _, rfl, rfl, _, _, rfl, rfl, ⟨by decide, by decide, a2⟩, Or.inl ⟨_, rfl, _, _, rfl, rfl, (show (1000000007 : Int) ≠ 0 by decide), _, rfl, _, _, rfl, rfl, mne, fin _ _ S2 _⟩⟩
  refine ⟨_, rfl, st, _, 1, .int n1, rfl, rfl, SqL.of S.a, rfl, rfl, _, rfl, ?_⟩
  by_cases hz : n1 = 0
  · refine iteD (congrArg V.int hz) ⟨_, rfl, st, _, 0, .ref cl, rfl, rfl, SqL.of S.a, rfl, (by show 0 ≤ _; exact Nat.zero_le _), fun p hp => ?_⟩
    have S2 := S.new (o := .lst []) hp
    refine ⟨cs, [], at_list S2.b (ints_each _), at_list upd_same .nil, _, rfl, ?_⟩
    by_cases hcs : cs = []
    · exact iteND hcs (after _ _ S2 _ rfl)
    · refine iteNDn hcs ?_
      obtain ⟨c, cs2, rfl⟩ := List.exists_cons_of_ne_nil hcs
      refine ⟨fun σ' H' => ∃ m', m' < n ∧ ∃ cs n1 n3 u2, cs.length = m' ∧ σ' = [some (.ref st), some (.int many), u2, none, none] ∧ SdP (off st cl H) st cl H' cs n1 (n2 + 1) n3 ∧ 0 ≤ n3 ∧ n3 < 2147483648, fun σ' H' h => h, ?_⟩
      refine ⟨_, rfl, st, _, 0, .ref cl, rfl, rfl, SqL.of S2.a, rfl, Or.inl ⟨rfl, _, SqL.of S2.b⟩, cl, _, 0, 0, .int c, rfl, rfl, S2.b, by decide, by decide, seq0 (by simp), rfl, ?_⟩
      have S3 := S2.setCl hne gcl cs2 (l := ((c :: cs2).map V.int).eraseIdx 0) rfl
      have m3 := fmod_in (n3 * 8191 + c + 3) (j := 2147483647) (by decide)
      refine ⟨_, rfl, st, _, 3, .int n3, rfl, rfl, SqL.of S3.a, rfl, _, _, rfl, rfl, Or.inl ⟨by omega, by omega⟩, _, rfl, _, _, rfl, rfl, _, _, rfl, rfl, Or.inl ⟨_, rfl, _, _, rfl, rfl, (show (2147483647 : Int) ≠ 0 by decide), _, rfl, st, _, 3, 3, rfl, rfl, S3.a, rfl, ?_⟩⟩
      have S4 := S3.setSt hne gst (m1 := n1) (m2 := n2 + 1) (m3 := (n3 * 8191 + c + 3).fmod 2147483647) (l := [V.ref cl, .int n1, .int (n2 + 1), .int n3].set 3 (.int ((n3 * 8191 + c + 3).fmod 2147483647))) rfl
      refine ⟨_, rfl, _, _, rfl, rfl, ⟨by decide, by decide, by decide⟩, _, _, rfl, rfl, _, rfl, ?_⟩
      by_cases hc : (10 : Int) ^ (18 : Int).toNat ≤ c
      · refine iteD hc ⟨_, rfl, _, rfl, st, _, 1, 1, rfl, rfl, S4.a, rfl, cs2.length, by simp at hn; omega, cs2, c, _, _, rfl, rfl, S4.setSt hne gst rfl, m3.1, by omega⟩
      · refine iteDn hc ⟨_, rfl, st, _, 1, 1, rfl, rfl, S4.a, rfl, cs2.length, by simp at hn; omega, cs2, 0, _, _, rfl, rfl, S4.setSt hne gst rfl, m3.1, by omega⟩
  · exact iteDn (fun h => hz (V.int.inj h)) (after _ _ S _ rfl)
end
end K73
set_option maxRecDepth 100000
set_option maxHeartbeats 4000000
namespace K73
open Enc (At enc)
open PySem L2 Evl
theorem seqN {k n : Nat} (h : k < n) : seqIndex? (k : Int) n = some k := by
  unfold seqIndex?
  simp
  omega
theorem erase_perm {α : Type} : ∀ (l : List α) (k : Nat) (h : k < l.length), ([l[k]] ++ l.eraseIdx k).Perm l
  | [], _, h => absurd h (Nat.not_lt_zero _)
  | a :: l, 0, _ => .refl _
  | a :: l, k + 1, h => by
    have hk : k < l.length := Nat.lt_of_succ_lt_succ h
    have ih := erase_perm l k hk
    show (l[k] :: a :: l.eraseIdx k).Perm (a :: l)
    exact (List.Perm.swap a l[k] _).trans (ih.cons a)
section
variable {P : Program} {w : World} {K : PySem.W.Frag} {mg : Str → Option Value} {base : Heap}
abbrev s_law_start : Stmt := top 64
theorem sc_law_start : FnScope ["_law_script"] ["_law_script"] (defScope s_law_start) := ⟨rfl, rfl, rfl, by decide +kernel, rfl, by decide +kernel, by decide +kernel⟩
def sp_law_start (K : PySem.W.Frag) : Sp := fun vs H Q _ => ∃ (p : Addr) (cs : List Int), vs = [.ref p] ∧ (SqL K H p (cs.map V.int) ∨ SqT K H p (cs.map V.int)) ∧ ∀ st cl H', H st = none → H cl = none → Ex H H' → Stm H' st cl 0 → Q (.ref st) H'
theorem has_law_start (T : Txt K mg) (d : Def K mg "_law_start" s_law_start)   :
    Has P w K mg base CX0 "_law_start" ["_law_script"] 1 (sp_law_start K) := by
  obtain ⟨f, fd, F, m⟩ := d
  have sc := sc_law_start
  refine ⟨f, fd, F.ok (k := 0) sc (fun vs H Q E h => (by first | (obtain ⟨h, _⟩ := h; rw [h]; rfl) | (obtain ⟨_, h, _⟩ := h; rw [h]; rfl) | (obtain ⟨_, _, h, _⟩ := h; rw [h]; rfl) | (obtain ⟨_, _, _, h, _⟩ := h; rw [h]; rfl) | (obtain ⟨_, _, _, _, h, _⟩ := h; rw [h]; rfl) | (obtain ⟨_, _, _, _, _, h, _⟩ := h; rw [h]; rfl) | (obtain ⟨_, _, _, _, _, _, h, _⟩ := h; rw [h]; rfl) | (obtain ⟨_, _, _, _, _, _, _, h, _⟩ := h; rw [h]; rfl) | (obtain ⟨_, _, _, _, _, _, _, _, h, _⟩ := h; rw [h]; rfl) | (obtain ⟨_, _, _, _, _, _, _, _, _, h, _⟩ := h; rw [h]; rfl) | (obtain ⟨_, _, _, _, _, _, _, _, _, _, h, _⟩ := h; rw [h]; rfl))) (fun cdv A outer s H vs Q E hr h => ?_), m, F.kp, F.binds fun _ _ _ _ _ _ us hl => match us, hl with | [_], _ => rfl⟩
  obtain ⟨p, cs, rfl, hs, q⟩ := h
  refine ⟨_, ((pss_one (ps_ret (pe_lst (pa_cons (pe_callTy (call_list_ofK K rfl) (by rfl) T.b_list (by decide +kernel) (pa_cons (pv 0) pa_nil)) (pa_cons pe_int (pa_cons pe_int (pa_cons pe_int pa_nil)))))))), ?_⟩
  refine ⟨_, rfl, p, _, rfl, hs, fun cl hcl => ⟨(by show 4 ≤ sizeLine; decide), fun st hst => ?_⟩⟩
  have ne : st ≠ cl := fun e => by rw [e, upd_same] at hst; cases hst
  exact q st cl _ (fresh_back (Ex.new hcl) hst) hcl ((Ex.new hcl).trans (Ex.new hst)) ⟨ne, cs, 0, 0, 11, upd_same, Ex.new hst _ _ upd_same, by decide, by decide, by decide, by decide⟩
abbrev s_law_pick : Stmt := top 66
theorem sc_law_pick : FnScope ["_law_stream", "_law_some"] ["_law_stream", "_law_some"] (defScope s_law_pick) := ⟨rfl, rfl, rfl, by decide +kernel, rfl, by decide +kernel, by decide +kernel⟩
def sp_law_pick : Sp := fun vs H Q _ => ∃ (st cl : Addr) (B : Nat) (a : Addr) (xs : List V), vs = [.ref st, .ref a] ∧ Stm H st cl B ∧ B < 2 ^ 40 ∧ (off st cl H) a = some (.lst xs) ∧ xs ≠ [] ∧ xs.length ≤ 100000 ∧
  ∀ H' x, Ex (off st cl H) H' → Stm H' st cl (B + 1) → x ∈ xs → Q x H'
theorem has_law_pick (T : Txt K mg) (d : Def K mg "_law_pick" s_law_pick) (d_law_draw : Has P w K mg base CX0 "_law_draw" ["_law_stream", "_law_many"] 1 sp_law_draw)  :
    Has P w K mg base CX0 "_law_pick" ["_law_stream", "_law_some"] 2 sp_law_pick := by
  obtain ⟨f, fd, F, m⟩ := d
  have sc := sc_law_pick
  refine ⟨f, fd, F.ok (k := 1) sc (fun vs H Q E h => (by first | (obtain ⟨h, _⟩ := h; rw [h]; rfl) | (obtain ⟨_, h, _⟩ := h; rw [h]; rfl) | (obtain ⟨_, _, h, _⟩ := h; rw [h]; rfl) | (obtain ⟨_, _, _, h, _⟩ := h; rw [h]; rfl) | (obtain ⟨_, _, _, _, h, _⟩ := h; rw [h]; rfl) | (obtain ⟨_, _, _, _, _, h, _⟩ := h; rw [h]; rfl) | (obtain ⟨_, _, _, _, _, _, h, _⟩ := h; rw [h]; rfl) | (obtain ⟨_, _, _, _, _, _, _, h, _⟩ := h; rw [h]; rfl) | (obtain ⟨_, _, _, _, _, _, _, _, h, _⟩ := h; rw [h]; rfl) | (obtain ⟨_, _, _, _, _, _, _, _, _, h, _⟩ := h; rw [h]; rfl) | (obtain ⟨_, _, _, _, _, _, _, _, _, _, h, _⟩ := h; rw [h]; rfl))) (fun cdv A outer s H vs Q E hr h => ?_), m, F.kp, F.binds fun _ _ _ _ _ _ us hl => match us, hl with | [_, _], _ => rfl⟩
  obtain ⟨st, cl, B, a, xs, rfl, S, hB, ha, hne, hl, q⟩ := h
  refine ⟨_, ((pss_one (ps_ret (pe_ix (ix_listK K rfl) (pv 1) (pe_has d_law_draw (hr.mono (by decide)) pass0 (by exact (pa_cons (pv 0) (pa_cons (pe_callB (call_len_seqK K rfl) (by rfl) T.b_len (by decide +kernel) (pa_cons (pv 1) pa_nil)) pa_nil)))) (fun _ _ => rfl))))), ?_⟩
  have lpos := List.length_pos_iff.mpr hne
  refine ⟨_, rfl, _, rfl, _, rfl, a, xs, rfl, Or.inl (SqL.of (off_sub _ _ ha)), st, cl, B, xs.length, rfl, S, hB, by omega, by omega, fun H' r e S' h0 h1 => ?_⟩
  obtain ⟨k, rfl⟩ := Int.eq_ofNat_of_zero_le h0
  have hk : k < xs.length := by omega
  exact ⟨a, xs, _, xs[k], rfl, rfl, SqL.of (e _ _ ha), atI_nat (List.getElem?_eq_getElem hk), q H' _ e S' (List.getElem_mem hk)⟩
abbrev s_law_mixed : Stmt := top 67
theorem sc_law_mixed : FnScope ["_law_stream", "_law_some", "_law_left", "_law_k"] ["_law_stream", "_law_some"] (defScope s_law_mixed) := ⟨rfl, rfl, rfl, by decide +kernel, rfl, by decide +kernel, by decide +kernel⟩
def sp_law_mixed : Sp := fun vs H Q _ => ∃ (st cl : Addr) (B : Nat) (a : Addr) (xs : List V), vs = [.ref st, .ref a] ∧ Stm H st cl B ∧ B + 1000 < 2 ^ 40 ∧ (off st cl H) a = some (.lst xs) ∧ xs.length ≤ 1000 ∧
  ∀ p ys H', H p = none → Ex (off st cl H) H' → Stm H' st cl (B + 1000) → (off st cl H') p = some (.lst ys) → ys.Perm xs → Q (.ref p) H'
theorem has_law_mixed (T : Txt K mg) (d : Def K mg "_law_mixed" s_law_mixed) (d_law_draw : Has P w K mg base CX0 "_law_draw" ["_law_stream", "_law_many"] 1 sp_law_draw)  :
    Has P w K mg base CX0 "_law_mixed" ["_law_stream", "_law_some"] 2 sp_law_mixed := by
  obtain ⟨f, fd, F, m⟩ := d
  have sc := sc_law_mixed
  refine ⟨f, fd, F.ok (k := 1) sc (fun vs H Q E h => (by first | (obtain ⟨h, _⟩ := h; rw [h]; rfl) | (obtain ⟨_, h, _⟩ := h; rw [h]; rfl) | (obtain ⟨_, _, h, _⟩ := h; rw [h]; rfl) | (obtain ⟨_, _, _, h, _⟩ := h; rw [h]; rfl) | (obtain ⟨_, _, _, _, h, _⟩ := h; rw [h]; rfl) | (obtain ⟨_, _, _, _, _, h, _⟩ := h; rw [h]; rfl) | (obtain ⟨_, _, _, _, _, _, h, _⟩ := h; rw [h]; rfl) | (obtain ⟨_, _, _, _, _, _, _, h, _⟩ := h; rw [h]; rfl) | (obtain ⟨_, _, _, _, _, _, _, _, h, _⟩ := h; rw [h]; rfl) | (obtain ⟨_, _, _, _, _, _, _, _, _, h, _⟩ := h; rw [h]; rfl) | (obtain ⟨_, _, _, _, _, _, _, _, _, _, h, _⟩ := h; rw [h]; rfl))) (fun cdv A outer s H vs Q E hr h => ?_), m, F.kp, F.binds fun _ _ _ _ _ _ us hl => match us, hl with | [_, _], _ => rfl⟩
  obtain ⟨st, cl, B, a, xs, rfl, S, hB, ha, hl, q⟩ := h
  refine ⟨_, ((pss_cons (ps_set (i := 2) sc.nd rfl (by first | exact Or.inl rfl | exact Or.inr rfl) (pe_callTy (call_list_ofK K rfl) (by rfl) T.b_list (by decide +kernel) (pa_cons (pv 1) pa_nil)))
    (pss_one (ps_ret (pe_lc (own := [("_law_k", 3)]) rfl sc.nd (pi_range1 (by rfl) T.b_range (pa_cons (pe_callB (call_len_seqK K rfl) (by rfl) T.b_len (by decide +kernel) (pa_cons (pv 2) pa_nil)) pa_nil)) (blkOk_by (own := [("_law_k", 3)]) (N := ["_law_stream", "_law_some", "_law_left", "_law_k"]) (sc := defScope s_law_mixed) (by decide +kernel)) (fun _ _ _ _ _ => (pg_name (i := 3) sc.nd rfl (by first | exact Or.inl rfl | exact Or.inr rfl))) (fun _ _ _ _ _ => pts_nil) (fun _ _ _ _ _ => (pe_bmK K rfl PySem.F.plainAttrs_list PySem.F.slot_list_pop PySem.F.type_list_pop mt_popAt (pv 2) (pa_cons (pe_has d_law_draw (hr.mono (by decide)) pass0 (by exact (pa_cons (pv 0) (pa_cons (pe_callB (call_len_seqK K rfl) (by rfl) T.b_len (by decide +kernel) (pa_cons (pv 2) pa_nil)) pa_nil)))) pa_nil)))))))), ?_⟩
  refine ⟨_, rfl, a, xs, rfl, Or.inl (SqL.of (off_sub _ _ ha)), fun p1 hp1 => ?_⟩
  have S1 := S.mono (Ex.new (o := .lst xs) hp1)
  obtain ⟨n1, n2⟩ := S.ne hp1
  have e1 : Ex (off st cl H) (upd H p1 (.lst xs)) := off_sub.trans (Ex.new hp1)
  have h1 : (upd H p1 (.lst xs)) p1 = some (.lst xs) := upd_same
  have x1 : Ex H (upd H p1 (.lst xs)) := Ex.new hp1
  generalize upd H p1 (.lst xs) = H1 at S1 e1 h1 x1
  refine ⟨_, rfl, p1, xs, rfl, Or.inl (SqL.of h1), _, rfl, by omega, by omega, fun Dd hD => ?_⟩
  obtain ⟨n3, n4⟩ := S1.ne hD
  have pD : p1 ≠ Dd := fun e => by rw [← e, h1] at hD; cases hD
  have oD : (off st cl H) Dd = none := by rw [off_ne n3 n4]; exact fresh_back x1 hD
  have op1 : (off st cl H) p1 = none := by rw [off_ne n1 n2]; exact hp1
  have hlen : ((xs.length : Int)).toNat = xs.length := by omega
  rw [hlen]
  refine lcW xs.length (fun i H' => Ex (off st cl H) H' ∧ Stm H' st cl (B + i) ∧ ∃ rest acc, H' p1 = some (.lst rest) ∧ H' Dd = some (.lst acc) ∧ rest.length + i = xs.length ∧ acc.length = i ∧ (acc ++ rest).Perm xs) ⟨e1.trans (Ex.new hD), S1.mono (Ex.new hD), xs, [], Ex.new hD _ _ h1, upd_same, rfl, rfl, .refl _⟩ (fun i H' hi _ => hi) (fun H' _ => Nat.le_refl _) ?_ ?_
  · rintro i H' x H2 hi ⟨e, S2, rest, acc, hr, hacc, hlr, hla, hpm⟩ ⟨rfl, rfl⟩
    refine ⟨rfl, ?_⟩
    have hr' : (off st cl H2) p1 = some (.lst rest) := by rw [off_ne n1 n2]; exact hr
    have hacc' : (off st cl H2) Dd = some (.lst acc) := by rw [off_ne n3 n4]; exact hacc
    refine ⟨_, rfl, Or.inl ⟨rfl, _, SqL.of hr⟩, _, rfl, _, rfl, p1, rest, rfl, Or.inl (SqL.of hr), st, cl, B + i, rest.length, rfl, S2, by omega, by omega, by omega, fun H3 r e3 S3 h0 h4 => ?_⟩
    obtain ⟨k, rfl⟩ := Int.eq_ofNat_of_zero_le h0
    have hk : k < rest.length := by omega
    have s1 : (1000 : Nat) < sizeLine := by decide
    have hr3 := e3 _ _ hr'
    have hd3 := e3 _ _ hacc'
    refine ⟨p1, rest, _, k, rest[k], rfl, rfl, hr3, by omega, by omega, seqN hk, List.getElem?_eq_getElem hk, acc, ?_, by omega, ?_⟩
    · rw [upd_ne pD.symm]; exact hd3
    · have e5 : Ex (off st cl H) H3 := (off_up e).trans e3
      have S5 : Stm H3 st cl (B + (i + 1)) := S3
      obtain ⟨h6, cs, m1, m2, m3, h7, h8, h9⟩ := S5
      refine ⟨Ex.mut (Ex.mut e5 op1) oD, ⟨h6, cs, m1, m2, m3, by rw [upd_ne n3.symm, upd_ne n1.symm]; exact h7, by rw [upd_ne n4.symm, upd_ne n2.symm]; exact h8, h9⟩, rest.eraseIdx k, acc ++ [rest[k]], by rw [upd_ne pD, upd_same], upd_same, ?_, ?_, ?_⟩
      · rw [List.length_eraseIdx]
        rw [if_pos hk]
        omega
      · rw [List.length_append, List.length_singleton, hla]
      · refine List.Perm.trans ?_ hpm
        rw [List.append_assoc]
        exact List.Perm.append_left acc (erase_perm rest k hk)
  · rintro H' ⟨e, S2, rest, acc, hr, hacc, hlr, hla, hpm⟩
    have hr0 : rest = [] := List.length_eq_zero_iff.mp (by omega)
    subst hr0
    rw [List.append_nil] at hpm
    exact q Dd acc H' (fresh_back x1 hD) e (S2.le (by omega)) (by rw [off_ne n3 n4]; exact hacc) hpm
end
end K73
set_option maxRecDepth 100000
set_option maxHeartbeats 4000000
namespace K73
open Enc (At enc)
open PySem L2 Evl
section
variable {P : Program} {w : World} {K : PySem.W.Frag} {mg : Str → Option Value} {base : Heap}
abbrev s_law_loose : Stmt := top 70
theorem sc_law_loose : FnScope ["_law_stream", "_law_thing", "_law_found", "_law_part"] ["_law_stream", "_law_thing"] (defScope s_law_loose) := ⟨rfl, rfl, rfl, by decide +kernel, rfl, by decide +kernel, by decide +kernel⟩
def sp_loose0 : Sp := fun vs H Q _ => ∃ (st : Addr) (x : Str), vs = [.ref st, .str x] ∧ ∀ H', Ex H H' → Q (.str x) H'
theorem has_law_loose0 (T : Txt K mg) (d : Def K mg "_law_loose" s_law_loose) (d_law_loose : Has P w K mg base CX0 "_law_loose" ["_law_stream", "_law_thing"] 0 sp_none) (d_law_draw : Has P w K mg base CX0 "_law_draw" ["_law_stream", "_law_many"] 1 sp_law_draw)  :
    Has P w K mg base CX0 "_law_loose" ["_law_stream", "_law_thing"] 2 sp_loose0 := by
  obtain ⟨f, fd, F, m⟩ := d
  have sc := sc_law_loose
  refine ⟨f, fd, F.ok (k := 1) sc (fun vs H Q E h => (by first | (obtain ⟨h, _⟩ := h; rw [h]; rfl) | (obtain ⟨_, h, _⟩ := h; rw [h]; rfl) | (obtain ⟨_, _, h, _⟩ := h; rw [h]; rfl) | (obtain ⟨_, _, _, h, _⟩ := h; rw [h]; rfl) | (obtain ⟨_, _, _, _, h, _⟩ := h; rw [h]; rfl) | (obtain ⟨_, _, _, _, _, h, _⟩ := h; rw [h]; rfl) | (obtain ⟨_, _, _, _, _, _, h, _⟩ := h; rw [h]; rfl) | (obtain ⟨_, _, _, _, _, _, _, h, _⟩ := h; rw [h]; rfl) | (obtain ⟨_, _, _, _, _, _, _, _, h, _⟩ := h; rw [h]; rfl) | (obtain ⟨_, _, _, _, _, _, _, _, _, h, _⟩ := h; rw [h]; rfl) | (obtain ⟨_, _, _, _, _, _, _, _, _, _, h, _⟩ := h; rw [h]; rfl))) (fun cdv A outer s H vs Q E hr h => ?_), m, F.kp, F.binds fun _ _ _ _ _ _ us hl => match us, hl with | [_, _], _ => rfl⟩
  obtain ⟨st, x, rfl, q⟩ := h
  refine ⟨_, ((pss_cons (ps_if (pt_not (pt_val (pe_callB call_isT (by rfl) T.b_isinstance (by decide +kernel) (pa_cons (pv 1) (pa_cons (pe_tup (pa_cons (pe_bltn (v := .ty "list") (by rfl) T.b_list (by decide +kernel) rfl) (pa_cons (pe_bltn (v := .ty "tuple") (by rfl) T.b_tuple (by decide +kernel) rfl) pa_nil))) pa_nil)))))
      (pss_one (ps_ret (pv 1)))
      pss_nil)
    (pss_cons (ps_setLc (i := 2) (own := [("_law_part", 3)]) rfl sc.nd rfl rfl (sw_true rfl rfl rfl (by decide +kernel)) (pi_seqK K rfl (pv 1)) (blkOk_by (own := [("_law_part", 3)]) (N := ["_law_stream", "_law_thing", "_law_found", "_law_part"]) (sc := defScope s_law_loose) (by decide +kernel)) (fun _ _ _ _ _ => (pg_name (i := 3) sc.nd rfl (by first | exact Or.inl rfl | exact Or.inr rfl))) (fun _ _ _ _ _ => pts_nil) (fun _ _ _ _ _ => (pe_has d_law_loose (hr.mono (by decide)) pass0 (by exact (pa_cons (pv 0) (pa_cons (pv 3) pa_nil))))))
    (pss_one (ps_ret (pe_ifExp (pt_cmpR op_eq (pe_has d_law_draw (hr.mono (by decide)) pass0 (by exact (pa_cons (pv 0) (pa_cons pe_int pa_nil)))) pe_int (nomark _)) (pv 2) (pe_callTy (call_tuple_ofK K rfl) (by rfl) T.b_tuple (by decide +kernel) (pa_cons (pv 2) pa_nil)))))))), ?_⟩
  refine ⟨_, rfl, (by show 2 ≤ sizeLine; decide), fun p hp => ⟨_, p, .str, [.lst, .tup], rfl, upd_same, by decide, .str x, _, rfl, ?_⟩⟩
  exact ⟨_, rfl, q _ (Ex.new hp)⟩
def sp_loose1 : Sp := fun vs H Q _ => ∃ (st cl : Addr) (B : Nat) (v : V) (p : Pr), vs = [.ref st, v] ∧ Stm H st cl B ∧ B < 2 ^ 40 ∧ At (off st cl H) v p ∧
  ∀ u H', Ex (off st cl H) H' → Stm H' st cl (B + 1) → LpR (off st cl H') u p → Q u H'
theorem has_law_loose1 (T : Txt K mg) (d : Def K mg "_law_loose" s_law_loose) (d_law_loose : Has P w K mg base CX0 "_law_loose" ["_law_stream", "_law_thing"] 2 sp_loose0) (d_law_draw : Has P w K mg base CX0 "_law_draw" ["_law_stream", "_law_many"] 1 sp_law_draw)  :
    Has P w K mg base CX0 "_law_loose" ["_law_stream", "_law_thing"] 3 sp_loose1 := by
  obtain ⟨f, fd, F, m⟩ := d
  have sc := sc_law_loose
  refine ⟨f, fd, F.ok (k := 2) sc (fun vs H Q E h => (by first | (obtain ⟨h, _⟩ := h; rw [h]; rfl) | (obtain ⟨_, h, _⟩ := h; rw [h]; rfl) | (obtain ⟨_, _, h, _⟩ := h; rw [h]; rfl) | (obtain ⟨_, _, _, h, _⟩ := h; rw [h]; rfl) | (obtain ⟨_, _, _, _, h, _⟩ := h; rw [h]; rfl) | (obtain ⟨_, _, _, _, _, h, _⟩ := h; rw [h]; rfl) | (obtain ⟨_, _, _, _, _, _, h, _⟩ := h; rw [h]; rfl) | (obtain ⟨_, _, _, _, _, _, _, h, _⟩ := h; rw [h]; rfl) | (obtain ⟨_, _, _, _, _, _, _, _, h, _⟩ := h; rw [h]; rfl) | (obtain ⟨_, _, _, _, _, _, _, _, _, h, _⟩ := h; rw [h]; rfl) | (obtain ⟨_, _, _, _, _, _, _, _, _, _, h, _⟩ := h; rw [h]; rfl))) (fun cdv A outer s H vs Q E hr h => ?_), m, F.kp, F.binds fun _ _ _ _ _ _ us hl => match us, hl with | [_, _], _ => rfl⟩
  obtain ⟨st, cl, B, v, ⟨x, y⟩, rfl, S, hB, hat, q⟩ := h
  refine ⟨_, ((pss_cons (ps_if (pt_not (pt_val (pe_callB call_isT (by rfl) T.b_isinstance (by decide +kernel) (pa_cons (pv 1) (pa_cons (pe_tup (pa_cons (pe_bltn (v := .ty "list") (by rfl) T.b_list (by decide +kernel) rfl) (pa_cons (pe_bltn (v := .ty "tuple") (by rfl) T.b_tuple (by decide +kernel) rfl) pa_nil))) pa_nil)))))
      (pss_one (ps_ret (pv 1)))
      pss_nil)
    (pss_cons (ps_setLc (i := 2) (own := [("_law_part", 3)]) rfl sc.nd rfl rfl (sw_true rfl rfl rfl (by decide +kernel)) (pi_seqK K rfl (pv 1)) (blkOk_by (own := [("_law_part", 3)]) (N := ["_law_stream", "_law_thing", "_law_found", "_law_part"]) (sc := defScope s_law_loose) (by decide +kernel)) (fun _ _ _ _ _ => (pg_name (i := 3) sc.nd rfl (by first | exact Or.inl rfl | exact Or.inr rfl))) (fun _ _ _ _ _ => pts_nil) (fun _ _ _ _ _ => (pe_has d_law_loose (hr.mono (by decide)) pass0 (by exact (pa_cons (pv 0) (pa_cons (pv 3) pa_nil))))))
    (pss_one (ps_ret (pe_ifExp (pt_cmpR op_eq (pe_has d_law_draw (hr.mono (by decide)) pass0 (by exact (pa_cons (pv 0) (pa_cons pe_int pa_nil)))) pe_int (nomark _)) (pv 2) (pe_callTy (call_tuple_ofK K rfl) (by rfl) T.b_tuple (by decide +kernel) (pa_cons (pv 2) pa_nil)))))))), ?_⟩
  obtain ⟨t, rfl, ht⟩ := pr_ref hat
  refine ⟨_, rfl, (by show 2 ≤ sizeLine; decide), fun p hp => ⟨_, p, .tup, [.lst, .tup], rfl, upd_same, by decide, .tup (Ex.new hp _ _ (off_sub _ _ ht)), _, rfl, ?_⟩⟩
  have e1 : Ex H (upd H p (.tup [.ty "list", .ty "tuple"])) := Ex.new hp
  have S1 := S.mono e1
  have t1 := e1 _ _ (off_sub _ _ ht)
  refine ⟨_, rfl, t, rfl, Or.inr ⟨_, SqT.of t1, fun Dd hD => ?_⟩⟩
  have nD := S1.ne hD
  refine lcW 2 (fun i H' => Ex (upd H p (.tup [.ty "list", .ty "tuple"])) H' ∧ H' Dd = some (.lst ([V.str x, V.str y].take i))) ⟨Ex.new hD, upd_same⟩ (fun i H' hi ⟨e, _⟩ => ⟨_, [V.str x, V.str y][i], SqT.of (e _ _ t1), List.getElem?_eq_getElem (by exact hi)⟩) (fun H' ⟨e, _⟩ => ⟨_, SqT.of (e _ _ t1), by show 2 ≤ 2; omega⟩) ?_ ?_
  · rintro i H' z H2 hi ⟨e, hd⟩ ⟨rfl, hz⟩
    have hz' := hz _ (SqT.of (e _ _ t1))
    obtain ⟨s0, rfl⟩ : ∃ s0, z = V.str s0 := by
      rcases List.mem_cons.mp (List.mem_of_getElem? hz') with h | h
      · exact ⟨_, h⟩
      · exact ⟨_, List.mem_singleton.mp h⟩
    have s1 : (1000 : Nat) < sizeLine := by decide
    refine ⟨rfl, _, rfl, _, rfl, st, s0, rfl, fun H3 e3 => ⟨_, e3 _ _ hd, by rw [List.length_take]; omega, Ex.mut (e.trans e3) hD, ?_⟩⟩
    rw [upd_same, take_more hz']
  · rintro H' ⟨e, hd⟩
    have hd' : H' Dd = some (.lst [V.str x, V.str y]) := hd
    have S2 := S1.mono e
    refine ⟨_, rfl, st, cl, B, 3, rfl, S2, hB, by decide, by decide, fun H4 r e4 S4 _ _ => ⟨rfl, _, rfl, ?_⟩⟩
    have od : (off st cl H') Dd = some (.lst [V.str x, V.str y]) := by rw [off_ne nD.1 nD.2]; exact hd'
    have d4 := e4 _ _ od
    have e14 : Ex (off st cl H) H4 := (off_up (off_sub.trans (e1.trans e))).trans e4
    by_cases hr : r = 0
    · refine iteD (congrArg V.int hr) ⟨_, rfl, q _ _ e14 S4 ⟨Dd, rfl, Or.inl ?_⟩⟩
      rw [off_ne nD.1 nD.2]; exact d4
    · refine iteDn (fun h => hr (V.int.inj h)) ⟨_, rfl, Dd, _, rfl, Or.inl ⟨SqL.of d4, fun l hl => ?_⟩⟩
      exact q _ _ (e14.trans (Ex.new hl)) (S4.mono (Ex.new hl)) ⟨l, rfl, Or.inr (S4.new hl).2⟩
def sp_loose2 : Sp := fun vs H Q _ => ∃ (st cl : Addr) (B : Nat) (v : V) (ps : List Pr), vs = [.ref st, v] ∧ Stm H st cl B ∧ B + 1000 < 2 ^ 40 ∧ At (off st cl H) v ps ∧ ps.length ≤ 500 ∧
  ∀ u H', Ex (off st cl H) H' → Stm H' st cl (B + 1000) → LlR (off st cl H') u ps → Q u H'
theorem lp_off {H : Hp} {D : Addr} {acc : List V} {u : V} {p : Pr} (hd : H D = some (.lst acc)) (ha : ∀ y ∈ acc, ∃ b, y = V.ref b) (h : LpR H u p) : LpR (del H D) u p := by
  obtain ⟨a, rfl, h1⟩ := h
  have ne : a ≠ D := by
    rintro rfl
    rcases h1 with h1 | h1
    · rw [hd] at h1
      cases h1
      obtain ⟨b, e⟩ := ha _ List.mem_cons_self
      cases e
    · rw [hd] at h1; cases h1
  exact ⟨a, rfl, by rw [del_ne ne]; exact h1⟩
theorem lp_ref {H : Hp} : ∀ {vs : List V} {ps : List Pr}, Paired (LpR H) vs ps → ∀ y ∈ vs, ∃ b, y = V.ref b
  | _, _, .nil, y, hy => by cases hy
  | _, _, .cons h t, y, hy => by
    rcases List.mem_cons.mp hy with e | e
    · obtain ⟨a, ha, _⟩ := h
      exact ⟨a, e.trans ha⟩
    · exact lp_ref t y e
theorem has_law_loose2 (T : Txt K mg) (d : Def K mg "_law_loose" s_law_loose) (d_law_loose : Has P w K mg base CX0 "_law_loose" ["_law_stream", "_law_thing"] 3 sp_loose1) (d_law_draw : Has P w K mg base CX0 "_law_draw" ["_law_stream", "_law_many"] 1 sp_law_draw)  :
    Has P w K mg base CX0 "_law_loose" ["_law_stream", "_law_thing"] 4 sp_loose2 := by
  obtain ⟨f, fd, F, m⟩ := d
  have sc := sc_law_loose
  refine ⟨f, fd, F.ok (k := 3) sc (fun vs H Q E h => (by first | (obtain ⟨h, _⟩ := h; rw [h]; rfl) | (obtain ⟨_, h, _⟩ := h; rw [h]; rfl) | (obtain ⟨_, _, h, _⟩ := h; rw [h]; rfl) | (obtain ⟨_, _, _, h, _⟩ := h; rw [h]; rfl) | (obtain ⟨_, _, _, _, h, _⟩ := h; rw [h]; rfl) | (obtain ⟨_, _, _, _, _, h, _⟩ := h; rw [h]; rfl) | (obtain ⟨_, _, _, _, _, _, h, _⟩ := h; rw [h]; rfl) | (obtain ⟨_, _, _, _, _, _, _, h, _⟩ := h; rw [h]; rfl) | (obtain ⟨_, _, _, _, _, _, _, _, h, _⟩ := h; rw [h]; rfl) | (obtain ⟨_, _, _, _, _, _, _, _, _, h, _⟩ := h; rw [h]; rfl) | (obtain ⟨_, _, _, _, _, _, _, _, _, _, h, _⟩ := h; rw [h]; rfl))) (fun cdv A outer s H vs Q E hr h => ?_), m, F.kp, F.binds fun _ _ _ _ _ _ us hl => match us, hl with | [_, _], _ => rfl⟩
  obtain ⟨st, cl, B, v, ps, rfl, S, hB, hat, hl, q⟩ := h
  refine ⟨_, ((pss_cons (ps_if (pt_not (pt_val (pe_callB call_isT (by rfl) T.b_isinstance (by decide +kernel) (pa_cons (pv 1) (pa_cons (pe_tup (pa_cons (pe_bltn (v := .ty "list") (by rfl) T.b_list (by decide +kernel) rfl) (pa_cons (pe_bltn (v := .ty "tuple") (by rfl) T.b_tuple (by decide +kernel) rfl) pa_nil))) pa_nil)))))
      (pss_one (ps_ret (pv 1)))
      pss_nil)
    (pss_cons (ps_setLc (i := 2) (own := [("_law_part", 3)]) rfl sc.nd rfl rfl (sw_true rfl rfl rfl (by decide +kernel)) (pi_seqK K rfl (pv 1)) (blkOk_by (own := [("_law_part", 3)]) (N := ["_law_stream", "_law_thing", "_law_found", "_law_part"]) (sc := defScope s_law_loose) (by decide +kernel)) (fun _ _ _ _ _ => (pg_name (i := 3) sc.nd rfl (by first | exact Or.inl rfl | exact Or.inr rfl))) (fun _ _ _ _ _ => pts_nil) (fun _ _ _ _ _ => (pe_has d_law_loose (hr.mono (by decide)) pass0 (by exact (pa_cons (pv 0) (pa_cons (pv 3) pa_nil))))))
    (pss_one (ps_ret (pe_ifExp (pt_cmpR op_eq (pe_has d_law_draw (hr.mono (by decide)) pass0 (by exact (pa_cons (pv 0) (pa_cons pe_int pa_nil)))) pe_int (nomark _)) (pv 2) (pe_callTy (call_tuple_ofK K rfl) (by rfl) T.b_tuple (by decide +kernel) (pa_cons (pv 2) pa_nil)))))))), ?_⟩
  obtain ⟨t, ws, rfl, ht, hW⟩ := hat
  refine ⟨_, rfl, (by show 2 ≤ sizeLine; decide), fun p hp => ⟨_, p, .lst, [.lst, .tup], rfl, upd_same, by decide, .lst (Ex.new hp _ _ (off_sub _ _ ht)), _, rfl, ?_⟩⟩
  have e1 : Ex H (upd H p (.tup [.ty "list", .ty "tuple"])) := Ex.new hp
  have S1 := S.mono e1
  have ht1 : Ex (off st cl H) (off st cl (upd H p (.tup [.ty "list", .ty "tuple"]))) := off_mono e1
  have t1 := e1 _ _ (off_sub _ _ ht)
  generalize upd H p (.tup [.ty "list", .ty "tuple"]) = H1 at e1 S1 ht1 t1
  have wl := hW.length
  refine ⟨_, rfl, t, rfl, Or.inl ⟨_, SqL.of t1, fun Dd hD => ?_⟩⟩
  have nD := S1.ne hD
  have oD1 : (off st cl H1) Dd = none := by rw [off_ne nD.1 nD.2]; exact hD
  have ot := ht1 _ _ ht
  have tD : t ≠ Dd := fun e => by rw [e, hD] at t1; cases t1
  refine lcW ps.length (fun i H' => Ex (off st cl H1) H' ∧ Stm H' st cl (B + i) ∧ ∃ acc, H' Dd = some (.lst acc) ∧ Paired (LpR (del (off st cl H') Dd)) acc (ps.take i)) ⟨off_sub.trans (Ex.new hD), S1.mono (Ex.new hD), [], upd_same, .nil⟩ (fun i H' hi ⟨e, _⟩ => ⟨_, ws[i], SqL.of (e _ _ ot), List.getElem?_eq_getElem (by omega)⟩) (fun H' ⟨e, _⟩ => ⟨_, SqL.of (e _ _ ot), by omega⟩) ?_ ?_
  · rintro i H' z H2 hi ⟨e, S2, acc, hd, hp⟩ ⟨rfl, hz⟩
    obtain ⟨pr, hpr, hat⟩ := Paired.get hW (hz _ (SqL.of (e _ _ ot)))
    have hat2 : At (off st cl H2) z pr := Enc.mono (ht1.trans (off_up e)) hat
    have od : (off st cl H2) Dd = some (.lst acc) := by rw [off_ne nD.1 nD.2]; exact hd
    refine ⟨rfl, _, rfl, _, rfl, st, cl, B + i, z, pr, rfl, S2, by omega, hat2, fun u H3 e3 S3 hu => ?_⟩
    have d3 := e3 _ _ od
    have od3 : (off st cl H3) Dd = some (.lst acc) := by rw [off_ne nD.1 nD.2]; exact d3
    have s1 : (1000 : Nat) < sizeLine := by decide
    have al := hp.length
    rw [List.length_take] at al
    have S5 : Stm H3 st cl (B + (i + 1)) := S3
    obtain ⟨h6, cs, m1, m2, m3, h7, h8, h9⟩ := S5
    refine ⟨acc, d3, by omega, Ex.mut ((off_up e).trans e3) oD1, ⟨h6, cs, m1, m2, m3, by rw [upd_ne nD.1.symm]; exact h7, by rw [upd_ne nD.2.symm]; exact h8, h9⟩, acc ++ [u], upd_same, ?_⟩
    have dd : del (off st cl (upd H3 Dd (.lst (acc ++ [u])))) Dd = del (off st cl H3) Dd := by
      funext b
      by_cases hb : b = Dd
      · rw [hb, del_same, del_same]
      · rw [del_ne hb, del_ne hb]
        unfold off del
        split
        · rfl
        · split
          · rfl
          · exact upd_ne hb
    rw [dd, take_more hpr]
    refine Paired.snoc (Paired.stays lp_stays (del_ex (off_up e3)) hp) ?_
    exact lp_off od3 (lp_ref hp) hu
  · rintro H' ⟨e, S2, acc, hd, hp⟩
    rw [List.take_length] at hp
    have hp' : Paired (LpR (off st cl H')) acc ps := Paired.stays lp_stays del_sub hp
    have od : (off st cl H') Dd = some (.lst acc) := by rw [off_ne nD.1 nD.2]; exact hd
    refine ⟨_, rfl, st, cl, B + ps.length, 3, rfl, S2, by omega, by decide, by decide, fun H4 r e4 S4 _ _ => ⟨rfl, _, rfl, ?_⟩⟩
    have d4 := e4 _ _ od
    have e14 : Ex (off st cl H) H4 := (ht1.trans (off_up e)).trans e4
    have hp4 : Paired (LpR (off st cl H4)) acc ps := Paired.stays lp_stays (off_up e4) hp'
    by_cases hr : r = 0
    · refine iteD (congrArg V.int hr) ⟨_, rfl, q _ _ e14 (S4.le (by omega)) ⟨Dd, acc, rfl, Or.inl ?_, hp4⟩⟩
      rw [off_ne nD.1 nD.2]; exact d4
    · refine iteDn (fun h => hr (V.int.inj h)) ⟨_, rfl, Dd, _, rfl, Or.inl ⟨SqL.of d4, fun l hl => ?_⟩⟩
      exact q _ _ (e14.trans (Ex.new hl)) ((S4.mono (Ex.new hl)).le (by omega)) ⟨l, acc, rfl, Or.inr (S4.new hl).2, Paired.stays lp_stays (off_mono (Ex.new hl)) hp4⟩
abbrev s_law_each_once : Stmt := top 69
theorem sc_law_each_once : FnScope ["_law_things", "_law_found", "_law_thing"] ["_law_things"] (defScope s_law_each_once) := ⟨rfl, rfl, rfl, by decide +kernel, rfl, by decide +kernel, by decide +kernel⟩
def sp_law_each_once : Sp := fun vs H Q _ => ∃ (a : Addr) (ps : List Pr), vs = [.ref a] ∧ At H (.ref a) ps ∧ ps.length ≤ 1000 ∧ ∀ (p : Addr) (qs : List Pr) (H' : Hp), H p = none → Ex H H' → At H' (.ref p) qs → qs.Nodup → (∀ x ∈ qs, x ∈ ps) → qs.length ≤ ps.length → Q (.ref p) H'
theorem has_law_each_once (T : Txt K mg) (d : Def K mg "_law_each_once" s_law_each_once)   :
    Has P w K mg base CX0 "_law_each_once" ["_law_things"] 1 sp_law_each_once := by
  obtain ⟨f, fd, F, m⟩ := d
  have sc := sc_law_each_once
  refine ⟨f, fd, F.ok (k := 0) sc (fun vs H Q E h => (by first | (obtain ⟨h, _⟩ := h; rw [h]; rfl) | (obtain ⟨_, h, _⟩ := h; rw [h]; rfl) | (obtain ⟨_, _, h, _⟩ := h; rw [h]; rfl) | (obtain ⟨_, _, _, h, _⟩ := h; rw [h]; rfl) | (obtain ⟨_, _, _, _, h, _⟩ := h; rw [h]; rfl) | (obtain ⟨_, _, _, _, _, h, _⟩ := h; rw [h]; rfl) | (obtain ⟨_, _, _, _, _, _, h, _⟩ := h; rw [h]; rfl) | (obtain ⟨_, _, _, _, _, _, _, h, _⟩ := h; rw [h]; rfl) | (obtain ⟨_, _, _, _, _, _, _, _, h, _⟩ := h; rw [h]; rfl) | (obtain ⟨_, _, _, _, _, _, _, _, _, h, _⟩ := h; rw [h]; rfl) | (obtain ⟨_, _, _, _, _, _, _, _, _, _, h, _⟩ := h; rw [h]; rfl))) (fun cdv A outer s H vs Q E hr h => ?_), m, F.kp, F.binds fun _ _ _ _ _ _ us hl => match us, hl with | [_], _ => rfl⟩
  obtain ⟨a, ps, rfl, hat, hl, q⟩ := h
  refine ⟨_, ((pss_cons (ps_set (i := 1) sc.nd rfl (by first | exact Or.inl rfl | exact Or.inr rfl) (pe_lst pa_nil))
    (pss_cons (ps_for PassesOwn.never rfl (pi_listK K rfl (pv 0)) (pg_name (i := 2) sc.nd rfl (by first | exact Or.inl rfl | exact Or.inr rfl))
      (pss_one (ps_if (pt_cmpR (op_notInA (α := ((Str) × (Str))) (by decide) (hu65 hr)) (pv 2) (pv 1) (by rfl))
        (pss_one (ps_expr (pe_bmK K rfl PySem.F.plainAttrs_list PySem.F.slot_list_append PySem.F.type_list_append mt_append (pv 1) (pa_cons (pv 2) pa_nil))))
        pss_nil)))
    (pss_one (ps_ret (pv 1)))))), ?_⟩
  obtain ⟨ws, ha, hW⟩ := Each.ofAt hat
  have wl := hW.length
  refine ⟨(by show 0 ≤ _; exact Nat.zero_le _), fun p0 hp0 => ?_⟩
  refine ⟨_, rfl, a, rfl, ⟨_, SqL.of (Ex.new hp0 _ _ ha)⟩, forG ps.length (fun i σ H' => (∃ u, σ = [some (.ref a), some (.ref p0), u]) ∧ Ex H H' ∧ ∃ (vs : List V) (qs : List Pr), H' p0 = some (.lst vs) ∧ Each H vs qs ∧ qs.Nodup ∧ (∀ x ∈ qs, x ∈ ps) ∧ qs.length ≤ i) ⟨⟨_, rfl⟩, Ex.new hp0, [], [], upd_same, .nil, List.nodup_nil, (fun x hx => by cases hx), Nat.le_refl _⟩ (fun i σ H' hi ⟨_, e, _⟩ => ⟨_, ws[i], SqL.of (e _ _ ha), List.getElem?_eq_getElem (by omega)⟩) (fun σ H' ⟨_, e, _⟩ => ⟨_, SqL.of (e _ _ ha), by omega⟩) ?_ ?_⟩
  · rintro i σ H' x H2 hi ⟨⟨u, rfl⟩, e, vs, qs, hv, hE, hn, hs, hz⟩ ⟨rfl, hx⟩
    obtain ⟨p, hp, hat⟩ := Paired.get hW (hx _ (SqL.of (e _ _ ha)))
    have s1 : (1000 : Nat) < sizeLine := by decide
    have vl := hE.length
    refine ⟨_, rfl, _, rfl, p, qs, Enc.mono e hat, at_list hv (hE.mono e), _, rfl, ?_⟩
    by_cases hb : p ∈ qs
    · exact iteND hb ⟨⟨_, rfl⟩, e, vs, qs, hv, hE, hn, hs, by omega⟩
    · refine iteNDn hb ⟨_, rfl, Or.inl ⟨rfl, _, SqL.of hv⟩, _, rfl, p0, vs, x, rfl, rfl, hv, by omega, ⟨_, rfl⟩, Ex.mut e hp0, vs ++ [x], qs ++ [p], upd_same, hE.snoc hat, nodup_app hn (by simp) (fun z hz hz' => hb (by rw [← List.mem_singleton.mp hz']; exact hz)), fun z hz => ?_, by rw [List.length_append, List.length_singleton]; omega⟩
      rcases List.mem_append.mp hz with g | g
      · exact hs z g
      · rw [List.mem_singleton.mp g]; exact List.mem_of_getElem? hp
  · rintro σ H' ⟨⟨u, rfl⟩, e, vs, qs, hv, hE, hn, hs, hz⟩
    exact ⟨_, rfl, q p0 qs _ hp0 e (at_list hv (hE.mono e)) hn hs hz⟩
end
end K73
set_option maxRecDepth 100000
set_option maxHeartbeats 4000000
namespace K73
open Enc (At enc)
open PySem L2 Evl
theorem paired_perm {α β : Type} {F : α → β → Prop} {ys vs : List α} (h : ys.Perm vs) : ∀ {xs : List β}, Paired F vs xs → ∃ xs', Paired F ys xs' ∧ xs'.Perm xs := by
  induction h with
  | nil => intro xs h; exact ⟨xs, h, .refl _⟩
  | cons a _ ih =>
    intro xs h
    cases h with
    | cons r t =>
      obtain ⟨xs', h1, h2⟩ := ih t
      exact ⟨_, .cons r h1, h2.cons _⟩
  | swap a b l =>
    intro xs h
    cases h with
    | cons r t =>
      cases t with
      | cons r2 t2 => exact ⟨_, .cons r2 (.cons r t2), List.Perm.swap _ _ _⟩
  | trans _ _ ih1 ih2 =>
    intro xs h
    obtain ⟨x1, h1, h2⟩ := ih2 h
    obtain ⟨x2, h3, h4⟩ := ih1 h1
    exact ⟨x2, h3, h4.trans h2⟩
theorem each_off {H : Hp} {st cl : Addr} {B : Nat} (S : Stm H st cl B) : ∀ {vs : List V} {ps : List Pr}, Each H vs ps → Each (off st cl H) vs ps
  | _, _, .nil => .nil
  | _, _, .cons h t => by
    obtain ⟨_, cs, n1, n2, n3, h1, h2, _⟩ := id S
    refine .cons ?_ (each_off S t)
    obtain ⟨b, x, y, rfl, hb, hx, hy⟩ := h
    have ne1 : b ≠ st := fun e => by rw [e, h1] at hb; cases hb
    have ne2 : b ≠ cl := fun e => by rw [e, h2] at hb; cases hb
    exact ⟨b, x, y, rfl, by rw [off_ne ne1 ne2]; exact hb, hx, hy⟩
def nm10 : List Str := ["b", "aa", "c1", "docs", "z9", "a", "m3", "abcdefghijk1", "no", "yes"]
theorem nm10_nd : nm10.Nodup := by decide +kernel
theorem nm10_nm : Nms nm10 := by
  have h : nm10.all isNm = true := by decide +kernel
  exact List.all_eq_true.mp h
section
variable {P : Program} {w : World} {K : PySem.W.Frag} {mg : Str → Option Value} {base : Heap}
abbrev s_law_d_names : Stmt := top 71
theorem sc_law_d_names : FnScope ["_law_stream", "_law_many", "_law_some"] ["_law_stream", "_law_many"] (defScope s_law_d_names) := ⟨rfl, rfl, rfl, by decide +kernel, rfl, by decide +kernel, by decide +kernel⟩
def sp_law_d_names : Sp := fun vs H Q _ => ∃ (st cl : Addr) (B n : Nat), vs = [.ref st, .int n] ∧ Stm H st cl B ∧ B + 1000 < 2 ^ 40 ∧ n ≤ 10 ∧
  ∀ (p : Addr) (ns : List Str) (H' : Hp), H p = none → Ex (off st cl H) H' → Stm H' st cl (B + 1000) → (off st cl H') p = some (.lst (ns.map V.str)) → ns.Nodup → (∀ x ∈ ns, x ∈ nm10) → ns.length = n → Q (.ref p) H'
theorem has_law_d_names (T : Txt K mg) (d : Def K mg "_law_d_names" s_law_d_names) (d_law_mixed : Has P w K mg base CX0 "_law_mixed" ["_law_stream", "_law_some"] 2 sp_law_mixed)  :
    Has P w K mg base CX0 "_law_d_names" ["_law_stream", "_law_many"] 3 sp_law_d_names := by
  obtain ⟨f, fd, F, m⟩ := d
  have sc := sc_law_d_names
  refine ⟨f, fd, F.ok (k := 2) sc (fun vs H Q E h => (by first | (obtain ⟨h, _⟩ := h; rw [h]; rfl) | (obtain ⟨_, h, _⟩ := h; rw [h]; rfl) | (obtain ⟨_, _, h, _⟩ := h; rw [h]; rfl) | (obtain ⟨_, _, _, h, _⟩ := h; rw [h]; rfl) | (obtain ⟨_, _, _, _, h, _⟩ := h; rw [h]; rfl) | (obtain ⟨_, _, _, _, _, h, _⟩ := h; rw [h]; rfl) | (obtain ⟨_, _, _, _, _, _, h, _⟩ := h; rw [h]; rfl) | (obtain ⟨_, _, _, _, _, _, _, h, _⟩ := h; rw [h]; rfl) | (obtain ⟨_, _, _, _, _, _, _, _, h, _⟩ := h; rw [h]; rfl) | (obtain ⟨_, _, _, _, _, _, _, _, _, h, _⟩ := h; rw [h]; rfl) | (obtain ⟨_, _, _, _, _, _, _, _, _, _, h, _⟩ := h; rw [h]; rfl))) (fun cdv A outer s H vs Q E hr h => ?_), m, F.kp, F.binds fun _ _ _ _ _ _ us hl => match us, hl with | [_, _], _ => rfl⟩
  obtain ⟨st, cl, B, n, rfl, S, hB, hn, q⟩ := h
  refine ⟨_, ((pss_cons (ps_set (i := 2) sc.nd rfl (by first | exact Or.inl rfl | exact Or.inr rfl) (pe_lst (pa_cons pe_str (pa_cons pe_str (pa_cons pe_str (pa_cons pe_str (pa_cons pe_str (pa_cons pe_str (pa_cons pe_str (pa_cons pe_str (pa_cons pe_str (pa_cons pe_str pa_nil))))))))))))
    (pss_one (ps_ret (pe_slice (sl_listK K rfl) (pe_has d_law_mixed (hr.mono (by decide)) pass0 (by exact (pa_cons (pv 0) (pa_cons (pv 2) pa_nil)))) po_none (po_some (pv 1))))))), ?_⟩
  refine ⟨(by show 10 ≤ sizeLine; decide), fun p1 hp1 => ?_⟩
  have S1 := S.mono (Ex.new (o := .lst (nm10.map V.str)) hp1)
  obtain ⟨n1, n2⟩ := S.ne hp1
  have h1 : (off st cl (upd H p1 (.lst (nm10.map V.str)))) p1 = some (.lst (nm10.map V.str)) := (S.new hp1).2
  have x1 : Ex H (upd H p1 (.lst (nm10.map V.str))) := Ex.new hp1
  refine ⟨_, rfl, _, rfl, st, cl, B, p1, nm10.map V.str, rfl, S1, hB, h1, by decide, fun p2 ys H' hp2 e2 S2 hy hpm => ?_⟩
  obtain ⟨ns, hE, hpm2⟩ := paired_perm (F := StR H') hpm (strs_self nm10)
  have ey := strs_eq hE
  subst ey
  have ll := hpm2.length_eq
  have l10 : nm10.length = 10 := by decide
  refine ⟨_, rfl, _, rfl, p2, _, rfl, SqL.of (off_sub _ _ hy), fun p3 hp3 => ?_⟩
  rw [cut_take _ _ (by rw [List.length_map]; omega), ← List.map_take]
  refine q p3 (ns.take n) _ ?_ ((off_mono x1).trans (e2.trans (Ex.new hp3))) (S2.mono (Ex.new hp3)) (S2.new hp3).2 ((hpm2.nodup_iff.mpr nm10_nd).sublist (List.take_sublist _ _)) (fun x hx => hpm2.mem_iff.mp (List.mem_of_mem_take hx)) (by rw [List.length_take]; omega)
  obtain ⟨n3, n4⟩ := S2.ne hp3
  have := fresh_back e2 hp3
  rw [off_ne n3 n4] at this
  exact fresh_back x1 this
abbrev s_law_d_pairs : Stmt := top 72
theorem sc_law_d_pairs : FnScope ["_law_stream", "_law_names", "_law_way", "_law_many", "_law_found", "_law_k", "_law_one", "_law_other"] ["_law_stream", "_law_names"] (defScope s_law_d_pairs) := ⟨rfl, rfl, rfl, by decide +kernel, rfl, by decide +kernel, by decide +kernel⟩
def sp_law_d_pairs : Sp := fun vs H Q _ => ∃ (st cl : Addr) (B : Nat) (a : Addr) (ns : List Str), vs = [.ref st, .ref a] ∧ Stm H st cl B ∧ B + 4000 < 2 ^ 40 ∧ (off st cl H) a = some (.lst (ns.map V.str)) ∧ Nms ns ∧ ns.length ≤ 10 ∧
  ∀ (p : Addr) (ps : List Pr) (H' : Hp), H p = none → Ex (off st cl H) H' → Stm H' st cl (B + 4000) → At (off st cl H') (.ref p) ps → ps.Nodup → (∀ x ∈ ps, x.1 ∈ ns ∧ x.2 ∈ ns) → Q (.ref p) H'
theorem has_law_d_pairs (T : Txt K mg) (d : Def K mg "_law_d_pairs" s_law_d_pairs) (d_law_mixed : Has P w K mg base CX0 "_law_mixed" ["_law_stream", "_law_some"] 2 sp_law_mixed) (d_law_draw : Has P w K mg base CX0 "_law_draw" ["_law_stream", "_law_many"] 1 sp_law_draw) (d_law_each_once : Has P w K mg base CX0 "_law_each_once" ["_law_things"] 1 sp_law_each_once) (d_law_pick : Has P w K mg base CX0 "_law_pick" ["_law_stream", "_law_some"] 2 sp_law_pick)  :
    Has P w K mg base CX0 "_law_d_pairs" ["_law_stream", "_law_names"] 3 sp_law_d_pairs := by
  obtain ⟨f, fd, F, m⟩ := d
  have sc := sc_law_d_pairs
  refine ⟨f, fd, F.ok (k := 2) sc (fun vs H Q E h => (by first | (obtain ⟨h, _⟩ := h; rw [h]; rfl) | (obtain ⟨_, h, _⟩ := h; rw [h]; rfl) | (obtain ⟨_, _, h, _⟩ := h; rw [h]; rfl) | (obtain ⟨_, _, _, h, _⟩ := h; rw [h]; rfl) | (obtain ⟨_, _, _, _, h, _⟩ := h; rw [h]; rfl) | (obtain ⟨_, _, _, _, _, h, _⟩ := h; rw [h]; rfl) | (obtain ⟨_, _, _, _, _, _, h, _⟩ := h; rw [h]; rfl) | (obtain ⟨_, _, _, _, _, _, _, h, _⟩ := h; rw [h]; rfl) | (obtain ⟨_, _, _, _, _, _, _, _, h, _⟩ := h; rw [h]; rfl) | (obtain ⟨_, _, _, _, _, _, _, _, _, h, _⟩ := h; rw [h]; rfl) | (obtain ⟨_, _, _, _, _, _, _, _, _, _, h, _⟩ := h; rw [h]; rfl))) (fun cdv A outer s H vs Q E hr h => ?_), m, F.kp, F.binds fun _ _ _ _ _ _ us hl => match us, hl with | [_, _], _ => rfl⟩
  obtain ⟨st, cl, B, a, ns, rfl, S, hB, ha, hm, hln, q⟩ := h
  refine ⟨_, ((pss_cons (ps_asg (pe_tup (pa_cons (pe_has d_law_draw (hr.mono (by decide)) pass0 (by exact (pa_cons (pv 0) (pa_cons pe_int pa_nil)))) (pa_cons (pe_callB (call_len_seqK K rfl) (by rfl) T.b_len (by decide +kernel) (pa_cons (pv 1) pa_nil)) (pa_cons (pe_lst pa_nil) pa_nil)))) (pg_tupK (n := 3) K rfl rfl (pgs_cons (pg_name (i := 2) sc.nd rfl (by first | exact Or.inl rfl | exact Or.inr rfl)) (pgs_cons (pg_name (i := 3) sc.nd rfl (by first | exact Or.inl rfl | exact Or.inr rfl)) (pgs_cons (pg_name (i := 4) sc.nd rfl (by first | exact Or.inl rfl | exact Or.inr rfl)) pgs_nil)))))
    (pss_cons (ps_if (PW.pt (pw_and (pt_cmpR op_eq (pv 2) pe_int (nomark _)) (pw_and1 (pt_cmpR op_gt (pv 3) pe_int (nomark _)))))
      (pss_one (ps_setLc (i := 4) (own := [("_law_k", 5)]) rfl sc.nd rfl rfl (sw_true rfl rfl rfl (by decide +kernel)) (pi_range1 (by rfl) T.b_range (pa_cons (pe_op op_sub (pv 3) (pe_has d_law_draw (hr.mono (by decide)) pass0 (by exact (pa_cons (pv 0) (pa_cons pe_int pa_nil))))) pa_nil)) (blkOk_by (own := [("_law_k", 5)]) (N := ["_law_stream", "_law_names", "_law_way", "_law_many", "_law_found", "_law_k", "_law_one", "_law_other"]) (sc := defScope s_law_d_pairs) (by decide +kernel)) (fun _ _ _ _ _ => (pg_name (i := 5) sc.nd rfl (by first | exact Or.inl rfl | exact Or.inr rfl))) (fun _ _ _ _ _ => pts_nil) (fun _ _ _ _ _ => (pe_tup (pa_cons (pe_ix (ix_listK K rfl) (pv 1) (pv 5) (fun _ _ => rfl)) (pa_cons (pe_ix (ix_listK K rfl) (pv 1) (pe_op op_modN (pe_callTy call_int1 (by rfl) T.b_int (by decide +kernel) (pa_cons (pe_op op_add (pv 5) pe_int) pa_nil)) (pv 3)) (fun _ _ => rfl)) pa_nil))))))
      pss_nil)
    (pss_cons (ps_for PassesOwn.never rfl (pi_range1 (by rfl) T.b_range (pa_cons (pe_ifExp (pt_cmpR op_gt (pv 3) pe_int (nomark _)) (pe_has d_law_draw (hr.mono (by decide)) pass0 (by exact (pa_cons (pv 0) (pa_cons (pe_ix (ix_listK K rfl) (pe_lst (pa_cons pe_int (pa_cons (pe_op op_add (pe_op op_mul (pv 3) (pv 3)) pe_int) (pa_cons (pe_op op_add (pv 3) pe_int) (pa_cons (pe_op op_add (pe_op op_mul pe_int (pv 3)) pe_int) (pa_cons (pe_op op_add (pv 3) pe_int) pa_nil)))))) (pv 2) (fun _ _ => rfl)) pa_nil)))) pe_int) pa_nil)) (pg_name (i := 5) sc.nd rfl (by first | exact Or.inl rfl | exact Or.inr rfl))
      (pss_cons (ps_par (i := 6) (j := 7) (by rfl) sc.nd rfl rfl (by decide) rfl rfl (by exact (pa_cons (pe_has d_law_pick (hr.mono (by decide)) pass0 (by exact (pa_cons (pv 0) (pa_cons (pv 1) pa_nil)))) (pa_cons (pe_has d_law_pick (hr.mono (by decide)) pass0 (by exact (pa_cons (pv 0) (pa_cons (pv 1) pa_nil)))) pa_nil))) (by rfl))
      (pss_cons (ps_expr (pe_bmK K rfl PySem.F.plainAttrs_list PySem.F.slot_list_append PySem.F.type_list_append mt_append (pv 4) (pa_cons (pe_tup (pa_cons (pv 6) (pa_cons (pv 7) pa_nil))) pa_nil)))
      (pss_one (ps_expr (pe_bmK K rfl PySem.F.plainAttrs_list PySem.F.slot_list_extend PySem.F.type_list_extend mt_extend (pv 4) (pa_cons (pe_op op_rep (pe_lst (pa_cons (pe_tup (pa_cons (pv 7) (pa_cons (pv 6) pa_nil))) pa_nil)) (pe_callTy call_int1 (by rfl) T.b_int (by decide +kernel) (pa_cons (pe_cmpR op_eq (pv 2) pe_int (nomark _)) pa_nil))) pa_nil)))))))
    (pss_one (ps_ret (pe_has d_law_mixed (hr.mono (by decide)) pass0 (by exact (pa_cons (pv 0) (pa_cons (pe_has d_law_each_once (hr.mono (by decide)) pass0 (by exact (pa_cons (pv 4) pa_nil))) pa_nil)))))))))), ?_⟩
  refine ⟨_, rfl, st, cl, B, 5, rfl, S, by omega, by decide, by decide, fun H1 way e1 S1 w0 w5 => ?_⟩
  have gst := off_st (st := st) (cl := cl) (H := H)
  have gcl := off_cl (st := st) (cl := cl) (H := H)
  have nsat : ∀ z : Int, 0 ≤ z → z < ns.length → ∃ x ∈ ns, atI (ns.map V.str) z = some (.str x) := fun z h0 h1 => by
    obtain ⟨k, rfl⟩ := Int.eq_ofNat_of_zero_le h0
    have hk : k < ns.length := by omega
    exact ⟨ns[k], List.getElem_mem hk, atI_nat (by rw [List.getElem?_map, List.getElem?_eq_getElem hk]; rfl)⟩
  have s1 : (100001 : Nat) < sizeLine := by decide
  have main : ∀ (H2 : Hp) (f : Addr) (vs : List V) (ps : List Pr) (u5 : Option V) (Dx : Ends), Dx.rt = Q → Ex (off st cl H) H2 → Stm H2 st cl (B + 3) → (f ≠ st ∧ f ≠ cl) → (off st cl H) f = none → H f = none → H2 f = some (.lst vs) → Each H2 vs ps → (∀ p ∈ ps, p.1 ∈ ns ∧ p.2 ∈ ns) → ps.length ≤ 10 →
      tSeq
        (tFor
          (iRng1
            (tCons
              (tIf
                (tTest (tOp (rI0 fun i j => V.bl (decide (j < i))) (tVar 3) (tC (V.int 0))))
                (tCall sp_law_draw [] E0
                  (tCons (tVar 0)
                    (tCons
                      (tOp (rIxL K)
                        (tLst
                          (tCons (tC (V.int 2))
                            (tCons
                              (tOp (rI0 fun i j => V.int (i + j))
                                (tOp (rI CMul fun i j => V.int (i * j)) (tVar 3) (tVar 3))
                                (tC (V.int 1)))
                              (tCons
                                (tOp (rI0 fun i j => V.int (i + j)) (tVar 3) (tC (V.int 2)))
                                (tCons
                                  (tOp (rI0 fun i j => V.int (i + j))
                                    (tOp (rI CMul fun i j => V.int (i * j)) (tC (V.int 2))
                                      (tVar 3))
                                    (tC (V.int 1)))
                                  (tCons
                                    (tOp (rI0 fun i j => V.int (i + j)) (tVar 3)
                                      (tC (V.int 1)))
                                    tNil))))))
                        (tVar 2))
                      tNil)))
                (tC (V.int 0)))
              tNil))
          (gName 5)
          (tSeq
            (tPar 6 7
              (tCons (tCall sp_law_pick [] E0 (tCons (tVar 0) (tCons (tVar 1) tNil)))
                (tCons (tCall sp_law_pick [] E0 (tCons (tVar 0) (tCons (tVar 1) tNil)))
                  tNil)))
            (tSeq
              (tDrop
                (tBM K "list" rAppend (tVar 4)
                  (tCons (tTup (tCons (tVar 6) (tCons (tVar 7) tNil))) tNil)))
              (tDrop
                (tBM K "list" rExtend (tVar 4)
                  (tCons
                    (tOp rRep
                      (tLst (tCons (tTup (tCons (tVar 7) (tCons (tVar 6) tNil))) tNil))
                      (tCB
                        (fun xs H Q =>
                          (∃ i, xs = [V.int i] ∧ Q (V.int i) H) ∨
                            ∃ k, xs = [V.bl k] ∧ Q (V.int (if k = true then 1 else 0)) H)
                        (tCons (tOp rEq (tVar 2) (tC (V.int 3))) tNil)))
                    tNil))))))
        (tRet
          (tCall sp_law_mixed [] E0
            (tCons (tVar 0)
              (tCons (tCall sp_law_each_once [] E0 (tCons (tVar 4) tNil)) tNil)))) Dx [some (.ref st), some (.ref a), some (.int way), some (.int ns.length), some (.ref f), u5, none, none] H2 := by
    intro H2 f vs ps u5 Dx hDx e2 S2 nfs hf0 hfH hf hE hin hl
    have loop : ∀ ti : TI, (∀ R : It → Hp → Prop, (∀ (n : Nat) (H3 : Hp), n ≤ 101 → (0 < n → ns ≠ []) → Ex (off st cl H) H3 → Stm H3 st cl (B + 4) → H3 f = some (.lst vs) → Each H3 vs ps → R (Itr 0 n) H3) → ti [some (.ref st), some (.ref a), some (.int way), some (.int ns.length), some (.ref f), u5, none, none] H2 R) →
        tSeq (tFor ti (gName 5)
          (tSeq
            (tPar 6 7
              (tCons (tCall sp_law_pick [] E0 (tCons (tVar 0) (tCons (tVar 1) tNil)))
                (tCons (tCall sp_law_pick [] E0 (tCons (tVar 0) (tCons (tVar 1) tNil)))
                  tNil)))
            (tSeq
              (tDrop
                (tBM K "list" rAppend (tVar 4)
                  (tCons (tTup (tCons (tVar 6) (tCons (tVar 7) tNil))) tNil)))
              (tDrop
                (tBM K "list" rExtend (tVar 4)
                  (tCons
                    (tOp rRep
                      (tLst (tCons (tTup (tCons (tVar 7) (tCons (tVar 6) tNil))) tNil))
                      (tCB
                        (fun xs H Q =>
                          (∃ i, xs = [V.int i] ∧ Q (V.int i) H) ∨
                            ∃ k, xs = [V.bl k] ∧ Q (V.int (if k = true then 1 else 0)) H)
                        (tCons (tOp rEq (tVar 2) (tC (V.int 3))) tNil)))
                    tNil)))))) (tRet (tCall sp_law_mixed [] E0 (tCons (tVar 0) (tCons (tCall sp_law_each_once [] E0 (tCons (tVar 4) tNil)) tNil)))) Dx [some (.ref st), some (.ref a), some (.int way), some (.int ns.length), some (.ref f), u5, none, none] H2 := by
      intro ti hti
      refine hti _ fun n H3 hn hnz e3 S3 hf3 hE3 => ?_
      refine (forG n (fun i σ H' => (∃ u5 u6 u7, σ = [some (.ref st), some (.ref a), some (.int way), some (.int ns.length), some (.ref f), u5, u6, u7]) ∧ Ex (off st cl H) H' ∧ Stm H' st cl (B + 4 + 2 * i) ∧ ∃ vs ps, H' f = some (.lst vs) ∧ Each H' vs ps ∧ (∀ p ∈ ps, p.1 ∈ ns ∧ p.2 ∈ ns) ∧ ps.length ≤ 10 + 2 * i) ⟨⟨_, _, _, rfl⟩, e3, S3, vs, ps, hf3, hE3, hin, hl⟩ (fun i σ H' hi _ => hi) (fun σ H' _ => Nat.le_refl _) ?_ ?_)
      · rintro i σ H' x H4 hi ⟨⟨u5, u6, u7, rfl⟩, e4, S4, vs, ps, hf4, hE4, hin, hl⟩ ⟨rfl, rfl⟩
        have nne : ns.map V.str ≠ [] := fun h => hnz (by omega) (List.map_eq_nil_iff.mp h)
        have nl : (ns.map V.str).length ≤ 100000 := by rw [List.length_map]; omega
        refine ⟨_, rfl, _, rfl, st, cl, _, a, ns.map V.str, rfl, S4, by omega, off_up e4 _ _ ha, nne, nl, fun H5 x1 e5 S5 hx1 => ?_⟩
        obtain ⟨s1', hs1, rfl⟩ := List.mem_map.mp hx1
        have e45 := (off_up e4).trans e5
        refine ⟨_, rfl, _, rfl, st, cl, _, a, ns.map V.str, rfl, S5, by omega, off_up e45 _ _ ha, nne, nl, fun H6 x2 e6 S6 hx2 => ?_⟩
        obtain ⟨s2', hs2, rfl⟩ := List.mem_map.mp hx2
        have e46 := (off_up e45).trans e6
        have hf5 := e5 _ _ (show (off st cl H4) f = some (.lst vs) by rw [off_ne nfs.1 nfs.2]; exact hf4)
        have hf6 := e6 _ _ (show (off st cl H5) f = some (.lst vs) by rw [off_ne nfs.1 nfs.2]; exact hf5)
        have hE5 := (each_off S4 hE4).mono e5
        have hE6 := (each_off S5 hE5).mono e6
        have k1 := nm_ok (hm _ hs1)
        have k2 := nm_ok (hm _ hs2)
        have vl := hE6.length
        refine ⟨_, _, rfl, _, rfl, Or.inl ⟨rfl, _, SqL.of hf6⟩, _, rfl, _, rfl, (by show 2 ≤ sizeLine; decide), fun t ht => ⟨f, vs, .ref t, rfl, rfl, Ex.new ht _ _ hf6, by omega, ?_⟩⟩
        have tf : t ≠ f := fun e => by rw [e, hf6] at ht; cases ht
        have e7 : Ex (off st cl H) (upd (upd H6 t (.tup [.str s1', .str s2'])) f (.lst (vs ++ [.ref t]))) := Ex.mut (e46.trans (Ex.new ht)) hf0
        have S7 : Stm (upd (upd H6 t (.tup [.str s1', .str s2'])) f (.lst (vs ++ [.ref t]))) st cl (B + 4 + 2 * (i + 1)) := by
          obtain ⟨h6, cs, m1, m2, m3, h7, h8, h9⟩ := (S6.mono (Ex.new (o := .tup [.str s1', .str s2']) ht)).le (show B + 4 + 2 * i + 1 + 1 ≤ B + 4 + 2 * (i + 1) by omega)
          exact ⟨h6, cs, m1, m2, m3, by rw [upd_ne nfs.1.symm]; exact h7, by rw [upd_ne nfs.2.symm]; exact h8, h9⟩
        have hf7 : (upd (upd H6 t (.tup [.str s1', .str s2'])) f (.lst (vs ++ [.ref t]))) f = some (.lst (vs ++ [.ref t])) := upd_same
        have hE7 : Each (upd (upd H6 t (.tup [.str s1', .str s2'])) f (.lst (vs ++ [.ref t]))) (vs ++ [.ref t]) (ps ++ [(s1', s2')]) :=
          (Each.row (Ex.new ht _ _ hf6) (fun _ h => by cases h) (hE6.mono (Ex.new ht))).snoc (at_pair (by rw [upd_ne tf, upd_same]) (at_str k1) (at_str k2))
        generalize upd (upd H6 t (.tup [.str s1', .str s2'])) f (.lst (vs ++ [.ref t])) = H7 at e7 S7 hf7 hE7
        refine ⟨_, rfl, Or.inl ⟨rfl, _, SqL.of hf7⟩, _, rfl, _, rfl, (by show 2 ≤ sizeLine; decide), fun t2 ht2 => ⟨(by show 1 ≤ sizeLine; decide), fun q1 hq1 => ⟨_, rfl, rfl, Or.inr ⟨_, rfl, ?_⟩⟩⟩⟩
        have e8 : Ex H7 (upd (upd H7 t2 (.tup [.str s2', .str s1'])) q1 (.lst [.ref t2])) := (Ex.new ht2).trans (Ex.new hq1)
        have ht8 : (upd (upd H7 t2 (.tup [.str s2', .str s1'])) q1 (.lst [.ref t2])) t2 = some (.tup [.str s2', .str s1']) := Ex.new hq1 _ _ upd_same
        have hq8 : (upd (upd H7 t2 (.tup [.str s2', .str s1'])) q1 (.lst [.ref t2])) q1 = some (.lst [.ref t2]) := upd_same
        generalize upd (upd H7 t2 (.tup [.str s2', .str s1'])) q1 (.lst [.ref t2]) = H8 at e8 ht8 hq8
        have fin : ∀ (zs : List V) (rs : List Pr) (p3 : Addr), H8 p3 = none → Each H8 zs rs → rs.length ≤ 1 → (∀ p ∈ rs, p.1 ∈ ns ∧ p.2 ∈ ns) → ∃ l b xs zs', V.ref f = V.ref l ∧ [V.ref p3] = [V.ref b] ∧ (upd H8 p3 (.lst zs)) l = some (.lst xs) ∧ (upd H8 p3 (.lst zs)) b = some (.lst zs') ∧ xs.length + zs'.length ≤ sizeLine ∧
            ((fun (σ : L2.St) (H' : Hp) => (∃ u5 u6 u7, σ = [some (V.ref st), some (V.ref a), some (V.int way), some (V.int ns.length), some (V.ref f), u5, u6, u7]) ∧ Ex (off st cl H) H' ∧ Stm H' st cl (B + 4 + 2 * (i + 1)) ∧ ∃ (vs : List V) (ps : List Pr), H' f = some (HO.lst vs) ∧ Each H' vs ps ∧ (∀ p ∈ ps, p.1 ∈ ns ∧ p.2 ∈ ns) ∧ ps.length ≤ 10 + 2 * (i + 1)) [some (V.ref st), some (V.ref a), some (V.int way), some (V.int ns.length), some (V.ref f), some (V.int (0 + (i : Int))), some (V.str s1'), some (V.str s2')] (upd (upd H8 p3 (HO.lst zs)) l (HO.lst (xs ++ zs')))) := fun zs rs p3 hp3 hz hz1 hzin => by
          have e9 := e8.trans (Ex.new (o := .lst zs) hp3)
          have zl := hz.length
          have vl7 : (vs ++ [V.ref t]).length = vs.length + 1 := by simp
          refine ⟨f, p3, _, zs, rfl, rfl, e9 _ _ hf7, upd_same, by omega, ⟨_, _, _, rfl⟩, Ex.mut (e7.trans e9) hf0, ?_, vs ++ [.ref t] ++ zs, (ps ++ [(s1', s2')]) ++ rs, upd_same, ?_, ?_, ?_⟩
          · obtain ⟨h6, cs, m1, m2, m3, h7, h8, h9⟩ := S7.mono e9
            exact ⟨h6, cs, m1, m2, m3, by rw [upd_ne nfs.1.symm]; exact h7, by rw [upd_ne nfs.2.symm]; exact h8, h9⟩
          · exact Each.row (e9 _ _ hf7) (fun _ h => by cases h) ((hE7.mono e9).append (hz.mono (Ex.new hp3)))
          · intro p hp
            rcases List.mem_append.mp hp with g | g
            · rcases List.mem_append.mp g with g | g
              · exact hin p g
              · rw [List.mem_singleton.mp g]; exact ⟨hs1, hs2⟩
            · exact hzin p g
          · rw [List.length_append, List.length_append, List.length_singleton]; omega
        by_cases hw3 : way = 3
        · rw [decide_eq_true (show V.int way = V.int 3 by rw [hw3])]
          exact ⟨q1, 1, [.ref t2], rfl, rfl, hq8, by decide, by decide, by show 1 * 1 ≤ sizeLine; decide, fun p3 hp3 => fin [.ref t2] [(s2', s1')] p3 hp3 (.cons (at_pair ht8 (at_str k2) (at_str k1)) .nil) (by simp) (fun p hp => by rw [List.mem_singleton.mp hp]; exact ⟨hs2, hs1⟩)⟩
        · rw [decide_eq_false (show ¬ V.int way = V.int 3 from fun h => hw3 (V.int.inj h))]
          exact ⟨q1, 0, [.ref t2], rfl, rfl, hq8, by decide, by decide, by show 1 * 0 ≤ sizeLine; decide, fun p3 hp3 => fin [] [] p3 hp3 .nil (by simp) (fun p hp => by cases hp)⟩
      · rintro σ H4 ⟨⟨u5, u6, u7, rfl⟩, e4, S4, vs, ps, hf4, hE4, hin, hl⟩
        refine ⟨_, rfl, _, rfl, f, ps, rfl, at_list hf4 hE4, by omega, fun p qs H5 hp e5 hA hnd hsub hql => ?_⟩
        obtain ⟨ws, hw, hEw⟩ := Each.ofAt hA
        have S5 := S4.mono e5
        have np : p ≠ st ∧ p ≠ cl := S4.ne hp
        have wl := hEw.length
        refine ⟨st, cl, B + 4 + 2 * n, p, ws, rfl, S5, by omega, by rw [off_ne np.1 np.2]; exact hw, by omega, fun p2 ys H6 hp2 e6 S6 hy hpm => ?_⟩
        obtain ⟨qs', hEq, hpq⟩ := paired_perm hpm (each_off S5 hEw)
        have n2 := S5.ne hp2
        have e06 : Ex (off st cl H) H6 := (off_up (e4.trans e5)).trans e6
        rw [hDx]
        refine q p2 qs' H6 ?_ e06 (S6.le (by omega)) (at_list hy (Paired.stays at_stays (off_up e6) hEq)) (hpq.nodup_iff.mpr hnd) fun z hz => hin z (hsub z (hpq.mem_iff.mp hz))
        have := fresh_back (e4.trans e5) hp2
        rw [off_ne n2.1 n2.2] at this
        exact this
    by_cases hpos : (0 : Int) < ns.length
    · have hsq : (ns.length : Int) * ns.length ≤ 100 := by
        have := Nat.mul_le_mul hln hln
        exact_mod_cast this
      have hsq0 : (0 : Int) ≤ (ns.length : Int) * ns.length := Int.mul_nonneg (by omega) (by omega)
      obtain ⟨z, hz, z1, z2⟩ : ∃ z : Int, atI [V.int 2, V.int ((ns.length : Int) * ns.length + 1), V.int ((ns.length : Int) + 2), V.int (2 * (ns.length : Int) + 1), V.int ((ns.length : Int) + 1)] way = some (.int z) ∧ 0 < z ∧ z ≤ 101 := by
        have hw : way = 0 ∨ way = 1 ∨ way = 2 ∨ way = 3 ∨ way = 4 := by omega
        rcases hw with rfl | rfl | rfl | rfl | rfl
        · exact ⟨_, rfl, by omega, by omega⟩
        · exact ⟨_, rfl, by omega, by omega⟩
        · exact ⟨_, rfl, by omega, by omega⟩
        · exact ⟨_, rfl, by omega, by omega⟩
        · exact ⟨_, rfl, by omega, by omega⟩
      refine loop _ fun R hR => ⟨_, rfl, _, _, rfl, rfl, _, rfl, iteD hpos ?_⟩
      refine ⟨_, rfl, _, rfl, _, rfl, _, _, rfl, rfl, Or.inl ⟨by omega, by omega⟩, _, _, rfl, rfl, _, rfl, _, _, rfl, rfl, _, rfl, _, _, rfl, rfl, Or.inl ⟨by omega, by omega⟩, _, _, rfl, rfl, _, rfl, _, _, rfl, rfl, (by show 5 ≤ sizeLine; decide), fun p hp => ⟨_, rfl, p, _, way, .int z, rfl, rfl, SqL.of upd_same, hz, st, cl, B + 3, z, rfl, S2.mono (Ex.new hp), by omega, z1, by omega, fun H3 r e3 S3 r0 rz => ⟨r, rfl, by omega, by omega, ?_⟩⟩⟩
      have x3 := Ex.new (o := .lst [V.int 2, V.int ((ns.length : Int) * ns.length + 1), V.int ((ns.length : Int) + 2), V.int (2 * (ns.length : Int) + 1), V.int ((ns.length : Int) + 1)]) hp
      have hf' : (off st cl (upd H2 p (.lst [V.int 2, V.int ((ns.length : Int) * ns.length + 1), V.int ((ns.length : Int) + 2), V.int (2 * (ns.length : Int) + 1), V.int ((ns.length : Int) + 1)]))) f = some (.lst vs) := by rw [off_ne nfs.1 nfs.2]; exact x3 _ _ hf
      exact hR r.toNat H3 (by omega) (fun _ h => by rw [h] at hpos; simp at hpos) ((off_up e2).trans ((off_mono x3).trans e3)) S3 (e3 _ _ hf') ((each_off (S2.mono x3) (hE.mono x3)).mono e3)
    · exact loop _ fun R hR => ⟨_, rfl, _, _, rfl, rfl, _, rfl, iteDn hpos ⟨0, rfl, by decide, by decide, hR 0 H2 (by omega) (fun h => absurd h (Nat.lt_irrefl _)) e2 (S2.le (by omega)) hf hE⟩⟩
  refine ⟨_, rfl, a, _, rfl, Or.inl (SqL.of (e1 _ _ ha)), (by show 0 ≤ _; exact Nat.zero_le _), fun f hf => ⟨(by show 3 ≤ sizeLine; decide), fun t ht => ⟨t, _, rfl, SqT.of upd_same, rfl, ?_⟩⟩⟩
  have x2 : Ex H1 (upd (upd H1 f (.lst [])) t (.tup [.int way, .int ((ns.map V.str).length : Nat), .ref f])) := (Ex.new hf).trans (Ex.new ht)
  have hf2 : (upd (upd H1 f (.lst [])) t (.tup [.int way, .int ((ns.map V.str).length : Nat), .ref f])) f = some (.lst []) := Ex.new ht _ _ upd_same
  have S2 : Stm (upd (upd H1 f (.lst [])) t (.tup [.int way, .int ((ns.map V.str).length : Nat), .ref f])) st cl (B + 2) := (S1.mono x2).le (by omega)
  have nf := S1.ne hf
  have hf0 : (off st cl H) f = none := fresh_back e1 hf
  have hfH : H f = none := by rw [← off_ne nf.1 nf.2 (H := H)]; exact hf0
  have e2 := e1.trans x2
  rw [List.length_map] at x2 hf2 S2 e2 ⊢
  generalize upd (upd H1 f (.lst [])) t (.tup [.int way, .int (ns.length : Nat), .ref f]) = H2 at x2 hf2 S2 e2
  refine ⟨_, _, rfl, _, _, rfl, _, _, rfl, ⟨rfl, ?_⟩⟩
  refine ⟨_, rfl, rfl, _, rfl, ?_⟩
  by_cases hw0 : way = 0
  · refine iteD (congrArg V.int hw0) ⟨_, rfl, _, _, rfl, rfl, _, rfl, ?_⟩
    by_cases hpos : (0 : Int) < ns.length
    · refine iteD hpos ⟨_, rfl, _, rfl, st, cl, B + 2, 2, rfl, S2, by omega, by decide, by decide, fun H3 r e3 S3 r0 r2 => ⟨_, _, rfl, rfl, _, rfl, by omega, by omega, fun Dd hD => ?_⟩⟩
      have nD := S3.ne hD
      have e03 := (off_up e2).trans e3
      have ha3 := e03 _ _ ha
      have hD0 : (off st cl H) Dd = none := fresh_back e03 hD
      have hDH : H Dd = none := by rw [← off_ne nD.1 nD.2 (H := H)]; exact hD0
      refine lcW ((ns.length : Int) - r).toNat (fun i H' => Ex H3 H' ∧ ∃ (acc : List V) (ps : List Pr), H' Dd = some (.lst acc) ∧ Each H' acc ps ∧ ps.length = i ∧ ∀ p ∈ ps, p.1 ∈ ns ∧ p.2 ∈ ns) ⟨Ex.new hD, [], [], upd_same, .nil, rfl, fun p hp => by cases hp⟩ (fun i H' hi _ => hi) (fun H' _ => Nat.le_refl _) ?_ ?_
      · rintro i H' x H4 hi ⟨e4, acc, ps, hacc, hE, hl, hin⟩ ⟨rfl, rfl⟩
        obtain ⟨x1, hx1, ha1⟩ := nsat (0 + (i : Int)) (by omega) (by omega)
        have m1 := fmod_in (0 + (i : Int) + 1) hpos
        obtain ⟨x2, hx2, ha2⟩ := nsat ((0 + (i : Int) + 1).fmod ns.length) m1.1 m1.2
        have al := hE.length
        refine ⟨rfl, _, rfl, _, rfl, a, _, _, .str x1, rfl, rfl, SqL.of (e4 _ _ ha3), ha1, _, rfl, _, rfl, _, _, rfl, rfl, Or.inl ⟨_, rfl, _, rfl, _, _, rfl, rfl, (by omega), a, _, _, .str x2, rfl, rfl, SqL.of (e4 _ _ ha3), ha2, (by show 2 ≤ sizeLine; decide), fun t ht => ⟨acc, Ex.new ht _ _ hacc, by omega, ?_⟩⟩⟩
        have tD : t ≠ Dd := fun e => by rw [e, hacc] at ht; cases ht
        refine ⟨Ex.mut (e4.trans (Ex.new ht)) hD, acc ++ [.ref t], ps ++ [(x1, x2)], upd_same, (Each.row (Ex.new ht _ _ hacc) (fun _ h => by cases h) (hE.mono (Ex.new ht))).snoc (at_pair (by rw [upd_ne tD, upd_same]) (at_str (nm_ok (hm _ hx1))) (at_str (nm_ok (hm _ hx2)))), by rw [List.length_append, List.length_singleton]; omega, fun p hp => ?_⟩
        rcases List.mem_append.mp hp with g | g
        · exact hin p g
        · rw [List.mem_singleton.mp g]; exact ⟨hx1, hx2⟩
      · rintro H4 ⟨e4, acc, ps, hacc, hE, hl, hin⟩
        exact main H4 Dd acc ps none _ rfl (e03.trans e4) (S3.mono e4) nD hD0 hDH hacc hE hin (by omega)
    · exact iteDn hpos (main H2 f [] [] none _ rfl e2 (S2.le (by omega)) nf hf0 hfH hf2 .nil (fun p hp => by cases hp) (Nat.zero_le _))
  · exact iteDn (fun h => hw0 (V.int.inj h)) (main H2 f [] [] none _ rfl e2 (S2.le (by omega)) nf hf0 hfH hf2 .nil (fun p hp => by cases hp) (Nat.zero_le _))
end
end K73
set_option maxRecDepth 100000
set_option maxHeartbeats 4000000
namespace K73
open Enc (At enc)
open PySem L2 Evl
open PySem.W (dataLe dataLt keyToks)
open PyProof.Rows (itemOrd listOrd lexLt)
section
variable {α : Type} [Enc α]
theorem enc_toks {x y : α} (h : keyToks (enc x) = keyToks (enc y)) : x = y := by
  cases he : PyData.eqv (enc x) (enc y) with
  | true => exact Enc.inj (Enc.eqv he)
  | false =>
    have h1 := (PySem.W.toks_eqv _ _ (Enc.alike x y)).2 he [] [Sum.inl 0]
    rw [h, List.append_nil] at h1
    have h2 := PySem.W.lex_pre (keyToks (enc y)) [] [Sum.inl 0]
    rw [List.append_nil] at h2
    have h3 : lexLt itemOrd (keyToks (enc y)) (keyToks (enc y)) = false := (listOrd itemOrd).irrefl _
    rw [h2, h3] at h1
    cases h1
theorem ltA_irrefl (x : α) : ltA x x = false := (listOrd itemOrd).irrefl _
theorem ltA_trans {x y z : α} (h1 : ltA x y = true) (h2 : ltA y z = true) : ltA x z = true := (listOrd itemOrd).trans _ _ _ h1 h2
theorem ltA_neg {x y z : α} (h : ltA x z = true) : ltA x y = true ∨ ltA y z = true := (listOrd itemOrd).negTrans _ _ _ h
theorem ltA_tri {x y : α} (h1 : ltA x y = false) (h2 : ltA y x = false) : x = y := enc_toks ((listOrd itemOrd).total _ _ h1 h2)
theorem dataLe_ltA (x y : α) : dataLe false enc x y = !ltA y x := rfl
theorem le_trans' {x y z : α} (h1 : ltA y x = false) (h2 : ltA z y = false) : ltA z x = false := by
  cases h : ltA z x with
  | false => rfl
  | true =>
    rcases ltA_neg (y := y) h with g | g
    · rw [h2] at g; cases g
    · rw [h1] at g; cases g
theorem srt_sorted (xs : List α) : (srt xs).Pairwise fun a b => ltA b a = false := by
  have h := List.pairwise_mergeSort (le := dataLe false (enc (α := α))) (fun a b c h1 h2 => by
    rw [dataLe_ltA, Bool.not_eq_true'] at h1 h2 ⊢
    exact le_trans' h1 h2) (fun a b => by
    rw [dataLe_ltA, dataLe_ltA]
    cases h : ltA b a with
    | false => rfl
    | true =>
      cases h' : ltA a b with
      | false => rfl
      | true =>
        have := ltA_trans h h'
        rw [ltA_irrefl] at this
        cases this) xs
  refine h.imp fun {a b} hab => ?_
  rw [dataLe_ltA, Bool.not_eq_true'] at hab
  exact hab
theorem sorted_unique : ∀ {l m : List α}, l.Perm m → (l.Pairwise fun a b => ltA b a = false) → (m.Pairwise fun a b => ltA b a = false) → l = m
  | [], m, p, _, _ => by rw [List.nil_perm.mp p]
  | a :: l, [], p, _, _ => absurd (List.perm_nil.mp p) (by simp)
  | a :: l, b :: m, p, hl, hm => by
    obtain ⟨l1, l2⟩ := List.pairwise_cons.mp hl
    obtain ⟨m1, m2⟩ := List.pairwise_cons.mp hm
    have e : a = b := by
      have ha : a ∈ b :: m := p.mem_iff.mp List.mem_cons_self
      have hb : b ∈ a :: l := p.mem_iff.mpr List.mem_cons_self
      rcases List.mem_cons.mp ha with h | h
      · exact h
      · rcases List.mem_cons.mp hb with g | g
        · exact g.symm
        · exact ltA_tri (m1 a h) (l1 b g)
    subst e
    rw [sorted_unique ((List.perm_cons a).mp p) l2 m2]
theorem srt_eq {l m : List α} (p : l.Perm m) : srt l = srt m := sorted_unique ((srt_perm l).trans (p.trans (srt_perm m).symm)) (srt_sorted l) (srt_sorted m)
theorem srt_srt (l : List α) : srt (srt l) = srt l := srt_eq (srt_perm l)
theorem srt_of {l : List α} (h : l.Pairwise fun a b => ltA b a = false) : srt l = l := sorted_unique (srt_perm l) (srt_sorted l) h
theorem srt_filter (p : α → Bool) (l : List α) : srt (l.filter p) = (srt l).filter p :=
  sorted_unique ((srt_perm _).trans ((srt_perm l).symm.filter p)) (srt_sorted _) ((srt_sorted l).filter p)
theorem srt_mem {l : List α} {x : α} : x ∈ srt l ↔ x ∈ l := (srt_perm l).mem_iff
end
end K73
set_option maxRecDepth 100000
set_option maxHeartbeats 4000000
namespace K73
open Enc (At enc)
open PySem L2 Evl
/-- the least one of a list of found pairs, if there is one -/
def leastOf {α : Type} [Enc α] : List α → Option α
  | [] => none
  | x :: xs => some (minA x xs)
def firstL (wt : Pr → Int) (lists : List (List Pr)) (bs : List Bool) : Option (Int × List Pr) := leastOf ((lists.zip bs).filterMap fun z => if z.2 = true then some (goneW wt z.1, z.1) else none)
/-- what the law finds: None, or a pair -/
def FL (H : Hp) (v : V) : Option (Int × List Pr) → Prop
  | none => v = .non
  | some r => At H v r
theorem FL.mono {H H' : Hp} {v : V} {r : Option (Int × List Pr)} (e : Ex H H') (h : FL H v r) : FL H' v r := by
  cases r with
  | none => exact h
  | some r => exact Enc.mono e h
theorem minA_mem {α : Type} [Enc α] : ∀ (xs : List α) (x : α), minA x xs ∈ x :: xs
  | [], x => List.mem_cons_self
  | y :: xs, x => by
    have ih := minA_mem xs (if ltA y x = true then y else x)
    show minA (if ltA y x = true then y else x) xs ∈ x :: y :: xs
    rcases List.mem_cons.mp ih with e | h
    · rw [e]
      split
      · exact List.mem_cons_of_mem _ List.mem_cons_self
      · exact List.mem_cons_self
    · exact List.mem_cons_of_mem _ (List.mem_cons_of_mem _ h)
theorem paired_get2 {α β : Type} {F : α → β → Prop} : ∀ {l : List α} {m : List β} {i : Nat} {x : β}, Paired F l m → m[i]? = some x → ∃ v, l[i]? = some v ∧ F v x
  | _, _, _, _, .nil, e => by simp at e
  | _, _, 0, _, .cons r _, e => by simp at e; subst e; exact ⟨_, rfl, r⟩
  | _, _, i + 1, x, .cons _ t, e => by
    obtain ⟨u, h1, h2⟩ := paired_get2 (i := i) (x := x) t (by simpa using e)
    exact ⟨u, by simpa using h1, h2⟩
section
variable {P : Program} {w : World} {K : PySem.W.Frag} {mg : Str → Option Value} {base : Heap} {C : Addr}
abbrev s_law_m_is_weight : Stmt := top 62
theorem sc_law_m_is_weight : FnScope ["_law_thing"] ["_law_thing"] (defScope s_law_m_is_weight) := ⟨rfl, rfl, rfl, by decide +kernel, rfl, by decide +kernel, by decide +kernel⟩
def sp_law_m_is_weight : Sp := fun vs H Q _ => ∃ (v : V) (k : KN), vs = [v] ∧ Knd H v k ∧ Q (.bl (isWt v)) H
theorem has_law_m_is_weight (T : Txt K mg) (d : Def K mg "_law_m_is_weight" s_law_m_is_weight)   :
    Has P w K mg base CX0 "_law_m_is_weight" ["_law_thing"] 1 sp_law_m_is_weight := by
  obtain ⟨f, fd, F, m⟩ := d
  have sc := sc_law_m_is_weight
  refine ⟨f, fd, F.ok (k := 0) sc (fun vs H Q E h => (by first | (obtain ⟨h, _⟩ := h; rw [h]; rfl) | (obtain ⟨_, h, _⟩ := h; rw [h]; rfl) | (obtain ⟨_, _, h, _⟩ := h; rw [h]; rfl) | (obtain ⟨_, _, _, h, _⟩ := h; rw [h]; rfl) | (obtain ⟨_, _, _, _, h, _⟩ := h; rw [h]; rfl) | (obtain ⟨_, _, _, _, _, h, _⟩ := h; rw [h]; rfl) | (obtain ⟨_, _, _, _, _, _, h, _⟩ := h; rw [h]; rfl) | (obtain ⟨_, _, _, _, _, _, _, h, _⟩ := h; rw [h]; rfl) | (obtain ⟨_, _, _, _, _, _, _, _, h, _⟩ := h; rw [h]; rfl) | (obtain ⟨_, _, _, _, _, _, _, _, _, h, _⟩ := h; rw [h]; rfl) | (obtain ⟨_, _, _, _, _, _, _, _, _, _, h, _⟩ := h; rw [h]; rfl))) (fun cdv A outer s H vs Q E hr h => ?_), m, F.kp, F.binds fun _ _ _ _ _ _ us hl => match us, hl with | [_], _ => rfl⟩
  obtain ⟨v, k, rfl, hk, q⟩ := h
  refine ⟨_, ((pss_one (ps_ret (pe_and (pe_callB call_is (by rfl) T.b_isinstance (by decide +kernel) (pa_cons (pv 0) (pa_cons (pe_bltn (v := .ty "int") (by rfl) T.b_int (by decide +kernel) rfl) pa_nil))) (pe_and (pe_not (pe_callB call_is (by rfl) T.b_isinstance (by decide +kernel) (pa_cons (pv 0) (pa_cons (pe_bltn (v := .ty "bool") (by rfl) T.b_bool (by decide +kernel) rfl) pa_nil)))) (pe_one (pe_cmpR op_gt (pv 0) pe_int (nomark _)))))))), ?_⟩
  refine ⟨_, rfl, v, k, .int, rfl, by decide, hk, _, rfl, ?_⟩
  cases hk with
  | int i => exact ⟨_, rfl, _, .int, .bl, rfl, by decide, .int i, _, rfl, _, rfl, _, rfl, _, _, rfl, rfl, by
      have e : decide (0 < i) = isWt (.int i) := decide_eq_decide.mpr (by omega)
      show Q (.bl (decide ((0 : Int) < i))) H
      rw [e]; exact q⟩
  | bl b => exact ⟨_, rfl, _, .bl, .bl, rfl, by decide, .bl b, _, rfl, _, rfl, q⟩
  | _ => exact q
abbrev s_law_m_left : Stmt := top 63
theorem sc_law_m_left : FnScope ["_law_pairs", "_law_gone", "_law_pair"] ["_law_pairs", "_law_gone"] (defScope s_law_m_left) := ⟨rfl, rfl, rfl, by decide +kernel, rfl, by decide +kernel, by decide +kernel⟩
def sp_law_m_left : Sp := fun vs H Q _ => ∃ (a b : Addr) (ps qs : List Pr), vs = [.ref a, .ref b] ∧ At H (.ref a) ps ∧ At H (.ref b) qs ∧ ps.length ≤ 1000 ∧ ∀ p H', H p = none → Ex H H' → At H' (.ref p) (ps.filter fun p => !decide (p ∈ qs)) → Q (.ref p) H'
theorem has_law_m_left (T : Txt K mg) (d : Def K mg "_law_m_left" s_law_m_left)   :
    Has P w K mg base CX0 "_law_m_left" ["_law_pairs", "_law_gone"] 1 sp_law_m_left := by
  obtain ⟨f, fd, F, m⟩ := d
  have sc := sc_law_m_left
  refine ⟨f, fd, F.ok (k := 0) sc (fun vs H Q E h => (by first | (obtain ⟨h, _⟩ := h; rw [h]; rfl) | (obtain ⟨_, h, _⟩ := h; rw [h]; rfl) | (obtain ⟨_, _, h, _⟩ := h; rw [h]; rfl) | (obtain ⟨_, _, _, h, _⟩ := h; rw [h]; rfl) | (obtain ⟨_, _, _, _, h, _⟩ := h; rw [h]; rfl) | (obtain ⟨_, _, _, _, _, h, _⟩ := h; rw [h]; rfl) | (obtain ⟨_, _, _, _, _, _, h, _⟩ := h; rw [h]; rfl) | (obtain ⟨_, _, _, _, _, _, _, h, _⟩ := h; rw [h]; rfl) | (obtain ⟨_, _, _, _, _, _, _, _, h, _⟩ := h; rw [h]; rfl) | (obtain ⟨_, _, _, _, _, _, _, _, _, h, _⟩ := h; rw [h]; rfl) | (obtain ⟨_, _, _, _, _, _, _, _, _, _, h, _⟩ := h; rw [h]; rfl))) (fun cdv A outer s H vs Q E hr h => ?_), m, F.kp, F.binds fun _ _ _ _ _ _ us hl => match us, hl with | [_, _], _ => rfl⟩
  obtain ⟨a, b, ps, qs, rfl, ha, hb, hl, q⟩ := h
  refine ⟨_, ((pss_one (ps_ret (pe_lc (own := [("_law_pair", 2)]) rfl sc.nd (pi_listK K rfl (pv 0)) (blkOk_by (own := [("_law_pair", 2)]) (N := ["_law_pairs", "_law_gone", "_law_pair"]) (sc := defScope s_law_m_left) (by decide +kernel)) (fun _ _ _ _ _ => (pg_name (i := 2) sc.nd rfl (by first | exact Or.inl rfl | exact Or.inr rfl))) (fun _ _ _ _ _ => (pts_one (pt_cmpR (op_notInA (α := ((Str) × (Str))) (by decide) (hu65 hr)) (pv 2) (pv 1) (by rfl)))) (fun _ _ _ _ _ => (pv 2)))))), ?_⟩
  obtain ⟨ws, h1, hW⟩ := Each.ofAt ha
  refine ⟨_, rfl, a, rfl, ⟨_, SqL.of h1⟩, fun Dd hD => ?_⟩
  refine lcL (R := fun _ v p => At H v p) (S := (At : Rel Pr)) (f := fun p => if (!decide (p ∈ qs)) = true then some p else none) ⟨fun _ _ _ _ _ h => h⟩ at_stays (fun _ e => SqL.of (e _ _ h1)) hW hD (by omega) (fun v p H2 e2 hv hp Kn Ky kn ky => ?_) (fun H2 md => ?_)
  · refine ⟨rfl, _, rfl, _, rfl, p, qs, Enc.mono e2 hv, Enc.mono e2 hb, _, rfl, ?_⟩
    by_cases hb : p ∈ qs
    · exact iteND hb (kn _ (Ex.refl _) (by simp [hb]))
    · exact iteNDn hb ⟨_, rfl, ky _ p _ (Ex.refl _) (by simp [hb]) fun G eG _ => Enc.mono eG hv⟩
  · rw [fm_if] at md
    obtain ⟨hn, ex, ws', hD', hw⟩ := md
    exact q Dd _ hn ex (at_list hD' (Each.mono del_sub hw))
abbrev s_law_m_sum : Stmt := top 59
theorem sc_law_m_sum : FnScope ["_law_weights", "_law_pairs", "_law_pair"] ["_law_weights", "_law_pairs"] (defScope s_law_m_sum) := ⟨rfl, rfl, rfl, by decide +kernel, rfl, by decide +kernel, by decide +kernel⟩
def sp_law_m_sum : Sp := fun vs H Q _ => ∃ (wb a : Addr) (kvs : List (List Key × V)) (g : List Pr) (wt : Pr → Int), vs = [.ref wb, .ref a] ∧ H wb = some (.dT kvs) ∧ (∀ p ∈ g, valV kvs (kP p) = some (.int (wt p))) ∧ At H (.ref a) g ∧ g.length ≤ 1000 ∧ ∀ H', Ex H H' → Q (.int (goneW wt g)) H'
theorem has_law_m_sum (T : Txt K mg) (d : Def K mg "_law_m_sum" s_law_m_sum)   :
    Has P w K mg base CX0 "_law_m_sum" ["_law_weights", "_law_pairs"] 1 sp_law_m_sum := by
  obtain ⟨f, fd, F, m⟩ := d
  have sc := sc_law_m_sum
  refine ⟨f, fd, F.ok (k := 0) sc (fun vs H Q E h => (by first | (obtain ⟨h, _⟩ := h; rw [h]; rfl) | (obtain ⟨_, h, _⟩ := h; rw [h]; rfl) | (obtain ⟨_, _, h, _⟩ := h; rw [h]; rfl) | (obtain ⟨_, _, _, h, _⟩ := h; rw [h]; rfl) | (obtain ⟨_, _, _, _, h, _⟩ := h; rw [h]; rfl) | (obtain ⟨_, _, _, _, _, h, _⟩ := h; rw [h]; rfl) | (obtain ⟨_, _, _, _, _, _, h, _⟩ := h; rw [h]; rfl) | (obtain ⟨_, _, _, _, _, _, _, h, _⟩ := h; rw [h]; rfl) | (obtain ⟨_, _, _, _, _, _, _, _, h, _⟩ := h; rw [h]; rfl) | (obtain ⟨_, _, _, _, _, _, _, _, _, h, _⟩ := h; rw [h]; rfl) | (obtain ⟨_, _, _, _, _, _, _, _, _, _, h, _⟩ := h; rw [h]; rfl))) (fun cdv A outer s H vs Q E hr h => ?_), m, F.kp, F.binds fun _ _ _ _ _ _ us hl => match us, hl with | [_, _], _ => rfl⟩
  obtain ⟨wb, a, kvs, g, wt, rfl, hwb, hw, hat, hl, q⟩ := h
  refine ⟨_, ((pss_one (ps_ret (pe_callB (cr_sumK K rfl rfl) (by rfl) T.b_sum (by decide +kernel) (pa_cons (pe_lc (own := [("_law_pair", 2)]) rfl sc.nd (pi_listK K rfl (pv 1)) (blkOk_by (own := [("_law_pair", 2)]) (N := ["_law_weights", "_law_pairs", "_law_pair"]) (sc := defScope s_law_m_sum) (by decide +kernel)) (fun _ _ _ _ _ => (pg_name (i := 2) sc.nd rfl (by first | exact Or.inl rfl | exact Or.inr rfl))) (fun _ _ _ _ _ => pts_nil) (fun _ _ _ _ _ => (pe_dget (hu_of hr) (pv 0) (pv 2) (fun _ _ => rfl)))) pa_nil))))), ?_⟩
  obtain ⟨ws, h1, hW⟩ := Each.ofAt hat
  exact ⟨_, rfl, a, rfl, ⟨_, SqL.of h1⟩, fun Dd hD => wsum_go (wt := wt) h1 hW hwb hw hl hD (fun T' H' Q _ p hp g hq => ⟨rfl, _, rfl, _, rfl, wb, _, rfl, g, hq⟩) (fun H3 e3 hD3 => ⟨Dd, _, rfl, SqL.of hD3, q _ e3⟩)⟩
abbrev s_law_m_one : Stmt := top 56
theorem sc_law_m_one : FnScope ["_law_debate"] ["_law_debate"] (defScope s_law_m_one) := ⟨rfl, rfl, rfl, by decide +kernel, rfl, by decide +kernel, by decide +kernel⟩
def sp_law_m_one (C : Addr) : Sp := fun vs H Q _ => ∃ (m : Addr) (ns : List Str) (ps : List Pr), vs = [.ref m] ∧ Deb C H m ns ps ∧ ∀ p H', H p = none → Ex H H' → At H' (.ref p) (ns, ps) → Q (.ref p) H'
theorem has_law_m_one (T : Txt K mg) (d : Def K mg "_law_m_one" s_law_m_one) (d_statements : HasM P w K mg base C "statements" 1 (sp_statements C)) (d_objections : HasM P w K mg base C "objections" 1 (sp_objections C))  :
    Has P w K mg base CX0 "_law_m_one" ["_law_debate"] 2 (sp_law_m_one C) := by
  obtain ⟨f, fd, F, m⟩ := d
  have sc := sc_law_m_one
  refine ⟨f, fd, F.ok (k := 1) sc (fun vs H Q E h => (by first | (obtain ⟨h, _⟩ := h; rw [h]; rfl) | (obtain ⟨_, h, _⟩ := h; rw [h]; rfl) | (obtain ⟨_, _, h, _⟩ := h; rw [h]; rfl) | (obtain ⟨_, _, _, h, _⟩ := h; rw [h]; rfl) | (obtain ⟨_, _, _, _, h, _⟩ := h; rw [h]; rfl) | (obtain ⟨_, _, _, _, _, h, _⟩ := h; rw [h]; rfl) | (obtain ⟨_, _, _, _, _, _, h, _⟩ := h; rw [h]; rfl) | (obtain ⟨_, _, _, _, _, _, _, h, _⟩ := h; rw [h]; rfl) | (obtain ⟨_, _, _, _, _, _, _, _, h, _⟩ := h; rw [h]; rfl) | (obtain ⟨_, _, _, _, _, _, _, _, _, h, _⟩ := h; rw [h]; rfl) | (obtain ⟨_, _, _, _, _, _, _, _, _, _, h, _⟩ := h; rw [h]; rfl))) (fun cdv A outer s H vs Q E hr h => ?_), m, F.kp, F.binds fun _ _ _ _ _ _ us hl => match us, hl with | [_], _ => rfl⟩
  obtain ⟨m, ns, ps, rfl, dm, q⟩ := h
  refine ⟨_, ((pss_one (ps_ret (pe_ifExp (pt_cmp (pc_isN (pv 0)) rfl) pe_non (pe_tup (pa_cons (pe_hasM0 d_statements (hr.mono (by decide)) (pv 0)) (pa_cons (pe_hasM0 d_objections (hr.mono (by decide)) (pv 0)) pa_nil))))))), ?_⟩
  obtain ⟨dx, l1, l2, d1, d2, a1, a2, ws, hm, -⟩ := dm.ex
  have n1 : (dflds l1 l2 d1 d2).lookup ("statements" : Str) = none := by
    unfold dflds
    rw [look_tl (by decide +kernel), look_tl (by decide +kernel), look_tl (by decide +kernel), look_tl (by decide +kernel)]
    rfl
  have n2 : (dflds l1 l2 d1 d2).lookup ("objections" : Str) = none := by
    unfold dflds
    rw [look_tl (by decide +kernel), look_tl (by decide +kernel), look_tl (by decide +kernel), look_tl (by decide +kernel)]
    rfl
  exact ⟨_, rfl, _, rfl, iteDn (fun h => V.noConfusion h) ⟨_, rfl, m, dx, _, rfl, hm, n1, m, ns, ps, rfl, dm, fun p1 H1 hp1 e1 h1 => ⟨_, rfl, m, dx, _, rfl, e1 _ _ hm, n2, m, ns, ps, rfl, dm.mono e1, fun p2 H2 hp2 e2 h2 => ⟨(by show 2 ≤ sizeLine; decide), fun t ht => q t _ (fresh_back (e1.trans e2) ht) ((e1.trans e2).trans (Ex.new ht)) (at_pair upd_same (dm.nms.at_ (Ex.new ht _ _ (e2 _ _ h1))) (Enc.mono (Ex.new ht) h2))⟩⟩⟩⟩
abbrev s_law_d_objectors : Stmt := top 73
theorem sc_law_d_objectors : FnScope ["_law_pairs", "_law_name", "_law_one", "_law_other"] ["_law_pairs", "_law_name"] (defScope s_law_d_objectors) := ⟨rfl, rfl, rfl, by decide +kernel, rfl, by decide +kernel, by decide +kernel⟩
def sp_law_d_objectors : Sp := fun vs H Q _ => ∃ (a : Addr) (ps : List Pr) (n : Str), vs = [.ref a, .str n] ∧ At H (.ref a) ps ∧ ps.length ≤ 1000 ∧ ∀ p H', H p = none → Ex H H' → At H' (.ref p) (srt (objectors ps n)) → Q (.ref p) H'
theorem has_law_d_objectors (T : Txt K mg) (d : Def K mg "_law_d_objectors" s_law_d_objectors)   :
    Has P w K mg base CX0 "_law_d_objectors" ["_law_pairs", "_law_name"] 1 sp_law_d_objectors := by
  obtain ⟨f, fd, F, m⟩ := d
  have sc := sc_law_d_objectors
  refine ⟨f, fd, F.ok (k := 0) sc (fun vs H Q E h => (by first | (obtain ⟨h, _⟩ := h; rw [h]; rfl) | (obtain ⟨_, h, _⟩ := h; rw [h]; rfl) | (obtain ⟨_, _, h, _⟩ := h; rw [h]; rfl) | (obtain ⟨_, _, _, h, _⟩ := h; rw [h]; rfl) | (obtain ⟨_, _, _, _, h, _⟩ := h; rw [h]; rfl) | (obtain ⟨_, _, _, _, _, h, _⟩ := h; rw [h]; rfl) | (obtain ⟨_, _, _, _, _, _, h, _⟩ := h; rw [h]; rfl) | (obtain ⟨_, _, _, _, _, _, _, h, _⟩ := h; rw [h]; rfl) | (obtain ⟨_, _, _, _, _, _, _, _, h, _⟩ := h; rw [h]; rfl) | (obtain ⟨_, _, _, _, _, _, _, _, _, h, _⟩ := h; rw [h]; rfl) | (obtain ⟨_, _, _, _, _, _, _, _, _, _, h, _⟩ := h; rw [h]; rfl))) (fun cdv A outer s H vs Q E hr h => ?_), m, F.kp, F.binds fun _ _ _ _ _ _ us hl => match us, hl with | [_, _], _ => rfl⟩
  obtain ⟨a, ps, n, rfl, hat, hl, q⟩ := h
  refine ⟨_, ((pss_one (ps_ret (pe_callB (cr_srt (α := Str) (by decide) (hu64 hr)) (by rfl) T.b_sorted (by decide +kernel) (pa_cons (pe_lc (own := [("_law_one", 2), ("_law_other", 3)]) rfl sc.nd (pi_listK K rfl (pv 0)) (blkOk_by (own := [("_law_one", 2), ("_law_other", 3)]) (N := ["_law_pairs", "_law_name", "_law_one", "_law_other"]) (sc := defScope s_law_d_objectors) (by decide +kernel)) (fun _ _ _ _ _ => (pg_tupK (n := 2) K rfl rfl (pgs_cons (pg_name (i := 2) sc.nd rfl (by first | exact Or.inl rfl | exact Or.inr rfl)) (pgs_cons (pg_name (i := 3) sc.nd rfl (by first | exact Or.inl rfl | exact Or.inr rfl)) pgs_nil)))) (fun _ _ _ _ _ => (pts_one (pt_cmpR op_eq (pv 3) (pv 1) (nomark _)))) (fun _ _ _ _ _ => (pv 2))) pa_nil))))), ?_⟩
  obtain ⟨ws, h1, hW⟩ := Each.ofAt hat
  refine ⟨_, rfl, a, rfl, ⟨_, SqL.of h1⟩, fun Dd hD => ?_⟩
  refine lcL (R := fun _ v p => At H v p) (S := (At : Rel Str)) (f := fun p => if decide (p.2 = n) = true then some p.1 else none) ⟨fun _ _ _ _ _ h => h⟩ at_stays (fun _ e => SqL.of (e _ _ h1)) hW hD (by omega) (fun v p H2 e2 hv hp Kn Ky kn ky => ?_) (fun H2 md => ?_)
  · obtain ⟨t, x, y, rfl, ht, ⟨rfl, hx⟩, ⟨rfl, hy⟩⟩ := id hv
    refine ⟨t, _, rfl, SqT.of (e2 _ _ ht), rfl, _, _, rfl, _, _, rfl, ⟨rfl, rfl, _, rfl, _, rfl, rfl, _, rfl, ?_⟩⟩
    by_cases hb : p.2 = n
    · exact iteD (congrArg V.str hb) ⟨_, rfl, ky _ p.1 _ (Ex.refl _) (by simp [hb]) fun G eG _ => at_str hx⟩
    · exact iteDn (fun h => hb (V.str.inj h)) (kn _ (Ex.refl _) (by simp [hb]))
  · rw [fm_ifm] at md
    obtain ⟨hn, ex, ws', hD', hw⟩ := md
    exact ⟨.ref Dd, objectors ps n, rfl, at_list hD' (Each.mono del_sub hw), fun p ws2 hp hw2 => q p _ (fresh_back ex hp) (ex.trans (Ex.new hp)) (at_list upd_same (hw2.mono (Ex.new hp)))⟩
abbrev s_law_d_hits : Stmt := top 74
theorem sc_law_d_hits : FnScope ["_law_pairs", "_law_lot", "_law_name", "_law_one"] ["_law_pairs", "_law_lot", "_law_name"] (defScope s_law_d_hits) := ⟨rfl, rfl, rfl, by decide +kernel, rfl, by decide +kernel, by decide +kernel⟩
def sp_law_d_hits : Sp := fun vs H Q _ => ∃ (a b : Addr) (ps : List Pr) (ms : List Str) (n : Str), vs = [.ref a, .ref b, .str n] ∧ At H (.ref a) ps ∧ At H (.ref b) ms ∧ ps.length ≤ 1000 ∧ ∀ H', Ex H H' → Q (.bl (hitB ps ms n)) H'
theorem has_law_d_hits (T : Txt K mg) (d : Def K mg "_law_d_hits" s_law_d_hits) (d_law_d_objectors : Has P w K mg base CX0 "_law_d_objectors" ["_law_pairs", "_law_name"] 1 sp_law_d_objectors)  :
    Has P w K mg base CX0 "_law_d_hits" ["_law_pairs", "_law_lot", "_law_name"] 2 sp_law_d_hits := by
  obtain ⟨f, fd, F, m⟩ := d
  have sc := sc_law_d_hits
  refine ⟨f, fd, F.ok (k := 1) sc (fun vs H Q E h => (by first | (obtain ⟨h, _⟩ := h; rw [h]; rfl) | (obtain ⟨_, h, _⟩ := h; rw [h]; rfl) | (obtain ⟨_, _, h, _⟩ := h; rw [h]; rfl) | (obtain ⟨_, _, _, h, _⟩ := h; rw [h]; rfl) | (obtain ⟨_, _, _, _, h, _⟩ := h; rw [h]; rfl) | (obtain ⟨_, _, _, _, _, h, _⟩ := h; rw [h]; rfl) | (obtain ⟨_, _, _, _, _, _, h, _⟩ := h; rw [h]; rfl) | (obtain ⟨_, _, _, _, _, _, _, h, _⟩ := h; rw [h]; rfl) | (obtain ⟨_, _, _, _, _, _, _, _, h, _⟩ := h; rw [h]; rfl) | (obtain ⟨_, _, _, _, _, _, _, _, _, h, _⟩ := h; rw [h]; rfl) | (obtain ⟨_, _, _, _, _, _, _, _, _, _, h, _⟩ := h; rw [h]; rfl))) (fun cdv A outer s H vs Q E hr h => ?_), m, F.kp, F.binds fun _ _ _ _ _ _ us hl => match us, hl with | [_, _, _], _ => rfl⟩
  obtain ⟨a, b, ps, ms, n, rfl, hat, hb, hl, q⟩ := h
  refine ⟨_, ((pss_one (ps_ret (pe_callB (cr_anyK K rfl rfl) (by rfl) T.b_any (by decide +kernel) (pa_cons (pe_lc (own := [("_law_one", 3)]) rfl sc.nd (pi_listK K rfl (pe_has d_law_d_objectors (hr.mono (by decide)) pass0 (by exact (pa_cons (pv 0) (pa_cons (pv 2) pa_nil))))) (blkOk_by (own := [("_law_one", 3)]) (N := ["_law_pairs", "_law_lot", "_law_name", "_law_one"]) (sc := defScope s_law_d_hits) (by decide +kernel)) (fun _ _ _ _ _ => (pg_name (i := 3) sc.nd rfl (by first | exact Or.inl rfl | exact Or.inr rfl))) (fun _ _ _ _ _ => pts_nil) (fun _ _ _ _ _ => (pe_cmpR (op_inA (α := Str) (by decide) (hu65 hr)) (pv 3) (pv 1) (by rfl)))) pa_nil))))), ?_⟩
  refine ⟨_, rfl, _, rfl, a, ps, n, rfl, hat, hl, fun p H1 hp e1 hA => ?_⟩
  obtain ⟨ws, h1, hW⟩ := Each.ofAt hA
  have ol : (srt (objectors ps n)).length ≤ 1000 := by rw [srt_length]; exact Nat.le_trans (objectors_len ps n) hl
  refine ⟨p, rfl, ⟨_, SqL.of h1⟩, fun Dd hD => lcL (R := fun _ v p => At H1 v p) (S := BlR) (f := fun x => some (decide (x ∈ ms))) (xs := srt (objectors ps n)) ⟨fun _ _ _ _ _ h => h⟩ bl_stays (fun _ e => SqL.of (e _ _ h1)) hW hD (by omega) (fun v x H2 e2 hv hx Kn Ky kn ky => ?_) (fun H2 md => ?_)⟩
  · exact ⟨rfl, _, rfl, _, rfl, x, ms, Enc.mono e2 hv, Enc.mono (e1.trans e2) hb, ky _ _ _ (Ex.refl _) rfl fun _ _ _ => rfl⟩
  · obtain ⟨_, ex, ws2, hD', hp'⟩ := md
    rw [bls_eq hp', fm_map] at hD'
    refine ⟨Dd, _, rfl, SqL.of hD', ?_⟩
    have eb : ((srt (objectors ps n)).map fun x => decide (x ∈ ms)).any id = hitB ps ms n := by
      rw [Bool.eq_iff_iff, hitB_iff, List.any_map, List.any_eq_true]
      constructor
      · rintro ⟨x, hx, h⟩
        exact ⟨x, by simpa using h, mem_objectors.mp (srt_mem.mp hx)⟩
      · rintro ⟨x, hx, h⟩
        exact ⟨x, srt_mem.mpr (mem_objectors.mpr h), by simpa using hx⟩
    rw [eb]
    exact q _ (e1.trans ex)
abbrev s_law_d_answers : Stmt := top 75
theorem sc_law_d_answers : FnScope ["_law_pairs", "_law_lot", "_law_name", "_law_one"] ["_law_pairs", "_law_lot", "_law_name"] (defScope s_law_d_answers) := ⟨rfl, rfl, rfl, by decide +kernel, rfl, by decide +kernel, by decide +kernel⟩
def sp_law_d_answers : Sp := fun vs H Q _ => ∃ (a b : Addr) (ps : List Pr) (ms : List Str) (n : Str), vs = [.ref a, .ref b, .str n] ∧ At H (.ref a) ps ∧ At H (.ref b) ms ∧ ps.length ≤ 1000 ∧ ∀ H', Ex H H' → Q (.bl (ansB ps ms n)) H'
theorem has_law_d_answers (T : Txt K mg) (d : Def K mg "_law_d_answers" s_law_d_answers) (d_law_d_hits : Has P w K mg base CX0 "_law_d_hits" ["_law_pairs", "_law_lot", "_law_name"] 2 sp_law_d_hits) (d_law_d_objectors : Has P w K mg base CX0 "_law_d_objectors" ["_law_pairs", "_law_name"] 1 sp_law_d_objectors)  :
    Has P w K mg base CX0 "_law_d_answers" ["_law_pairs", "_law_lot", "_law_name"] 3 sp_law_d_answers := by
  obtain ⟨f, fd, F, m⟩ := d
  have sc := sc_law_d_answers
  refine ⟨f, fd, F.ok (k := 2) sc (fun vs H Q E h => (by first | (obtain ⟨h, _⟩ := h; rw [h]; rfl) | (obtain ⟨_, h, _⟩ := h; rw [h]; rfl) | (obtain ⟨_, _, h, _⟩ := h; rw [h]; rfl) | (obtain ⟨_, _, _, h, _⟩ := h; rw [h]; rfl) | (obtain ⟨_, _, _, _, h, _⟩ := h; rw [h]; rfl) | (obtain ⟨_, _, _, _, _, h, _⟩ := h; rw [h]; rfl) | (obtain ⟨_, _, _, _, _, _, h, _⟩ := h; rw [h]; rfl) | (obtain ⟨_, _, _, _, _, _, _, h, _⟩ := h; rw [h]; rfl) | (obtain ⟨_, _, _, _, _, _, _, _, h, _⟩ := h; rw [h]; rfl) | (obtain ⟨_, _, _, _, _, _, _, _, _, h, _⟩ := h; rw [h]; rfl) | (obtain ⟨_, _, _, _, _, _, _, _, _, _, h, _⟩ := h; rw [h]; rfl))) (fun cdv A outer s H vs Q E hr h => ?_), m, F.kp, F.binds fun _ _ _ _ _ _ us hl => match us, hl with | [_, _, _], _ => rfl⟩
  obtain ⟨a, b, ps, ms, n, rfl, hat, hb, hl, q⟩ := h
  refine ⟨_, ((pss_one (ps_ret (pe_callB (cr_allK K rfl rfl) (by rfl) T.b_all (by decide +kernel) (pa_cons (pe_lc (own := [("_law_one", 3)]) rfl sc.nd (pi_listK K rfl (pe_has d_law_d_objectors (hr.mono (by decide)) pass0 (by exact (pa_cons (pv 0) (pa_cons (pv 2) pa_nil))))) (blkOk_by (own := [("_law_one", 3)]) (N := ["_law_pairs", "_law_lot", "_law_name", "_law_one"]) (sc := defScope s_law_d_answers) (by decide +kernel)) (fun _ _ _ _ _ => (pg_name (i := 3) sc.nd rfl (by first | exact Or.inl rfl | exact Or.inr rfl))) (fun _ _ _ _ _ => pts_nil) (fun _ _ _ _ _ => (pe_has d_law_d_hits (hr.mono (by decide)) pass0 (by exact (pa_cons (pv 0) (pa_cons (pv 1) (pa_cons (pv 3) pa_nil))))))) pa_nil))))), ?_⟩
  refine ⟨_, rfl, _, rfl, a, ps, n, rfl, hat, hl, fun p H1 hp e1 hA => ?_⟩
  obtain ⟨ws, h1, hW⟩ := Each.ofAt hA
  have ol : (srt (objectors ps n)).length ≤ 1000 := by rw [srt_length]; exact Nat.le_trans (objectors_len ps n) hl
  refine ⟨p, rfl, ⟨_, SqL.of h1⟩, fun Dd hD => lcL (R := fun _ v p => At H1 v p) (S := BlR) (f := fun x => some (hitB ps ms x)) (xs := srt (objectors ps n)) ⟨fun _ _ _ _ _ h => h⟩ bl_stays (fun _ e => SqL.of (e _ _ h1)) hW hD (by omega) (fun v x H2 e2 hv hx Kn Ky kn ky => ?_) (fun H2 md => ?_)⟩
  · obtain ⟨rfl, hxok⟩ := id hv
    exact ⟨rfl, _, rfl, _, rfl, _, rfl, a, b, ps, ms, x, rfl, Enc.mono (e1.trans e2) hat, Enc.mono (e1.trans e2) hb, hl, fun H3 e3 => ky _ _ _ e3 rfl fun _ _ _ => rfl⟩
  · obtain ⟨_, ex, ws2, hD', hp'⟩ := md
    rw [bls_eq hp', fm_map] at hD'
    refine ⟨Dd, _, rfl, SqL.of hD', ?_⟩
    have eb : ((srt (objectors ps n)).map fun x => hitB ps ms x).all id = ansB ps ms n := by
      unfold ansB
      rw [Bool.eq_iff_iff, List.all_map, List.all_eq_true, List.all_eq_true]
      exact ⟨fun h x hx => h x (srt_mem.mpr hx), fun h x hx => h x (srt_mem.mp hx)⟩
    rw [eb]
    exact q _ (e1.trans ex)
abbrev s_law_d_answered : Stmt := top 76
theorem sc_law_d_answered : FnScope ["_law_names", "_law_pairs", "_law_lot", "_law_name"] ["_law_names", "_law_pairs", "_law_lot"] (defScope s_law_d_answered) := ⟨rfl, rfl, rfl, by decide +kernel, rfl, by decide +kernel, by decide +kernel⟩
def sp_law_d_answered : Sp := fun vs H Q _ => ∃ (c a b : Addr) (ns : List Str) (ps : List Pr) (ms : List Str), vs = [.ref c, .ref a, .ref b] ∧ At H (.ref c) ns ∧ At H (.ref a) ps ∧ At H (.ref b) ms ∧ ps.length ≤ 1000 ∧ ns.length ≤ 1000 ∧ ∀ p H', H p = none → Ex H H' → At H' (.ref p) (answL (srt ns) ps ms) → Q (.ref p) H'
theorem has_law_d_answered (T : Txt K mg) (d : Def K mg "_law_d_answered" s_law_d_answered) (d_law_d_answers : Has P w K mg base CX0 "_law_d_answers" ["_law_pairs", "_law_lot", "_law_name"] 3 sp_law_d_answers)  :
    Has P w K mg base CX0 "_law_d_answered" ["_law_names", "_law_pairs", "_law_lot"] 4 sp_law_d_answered := by
  obtain ⟨f, fd, F, m⟩ := d
  have sc := sc_law_d_answered
  refine ⟨f, fd, F.ok (k := 3) sc (fun vs H Q E h => (by first | (obtain ⟨h, _⟩ := h; rw [h]; rfl) | (obtain ⟨_, h, _⟩ := h; rw [h]; rfl) | (obtain ⟨_, _, h, _⟩ := h; rw [h]; rfl) | (obtain ⟨_, _, _, h, _⟩ := h; rw [h]; rfl) | (obtain ⟨_, _, _, _, h, _⟩ := h; rw [h]; rfl) | (obtain ⟨_, _, _, _, _, h, _⟩ := h; rw [h]; rfl) | (obtain ⟨_, _, _, _, _, _, h, _⟩ := h; rw [h]; rfl) | (obtain ⟨_, _, _, _, _, _, _, h, _⟩ := h; rw [h]; rfl) | (obtain ⟨_, _, _, _, _, _, _, _, h, _⟩ := h; rw [h]; rfl) | (obtain ⟨_, _, _, _, _, _, _, _, _, h, _⟩ := h; rw [h]; rfl) | (obtain ⟨_, _, _, _, _, _, _, _, _, _, h, _⟩ := h; rw [h]; rfl))) (fun cdv A outer s H vs Q E hr h => ?_), m, F.kp, F.binds fun _ _ _ _ _ _ us hl => match us, hl with | [_, _, _], _ => rfl⟩
  obtain ⟨c, a, b, ns, ps, ms, rfl, hc, hat, hb, hl, hln, q⟩ := h
  refine ⟨_, ((pss_one (ps_ret (pe_callB (cr_srt (α := Str) (by decide) (hu64 hr)) (by rfl) T.b_sorted (by decide +kernel) (pa_cons (pe_lc (own := [("_law_name", 3)]) rfl sc.nd (pi_listK K rfl (pv 0)) (blkOk_by (own := [("_law_name", 3)]) (N := ["_law_names", "_law_pairs", "_law_lot", "_law_name"]) (sc := defScope s_law_d_answered) (by decide +kernel)) (fun _ _ _ _ _ => (pg_name (i := 3) sc.nd rfl (by first | exact Or.inl rfl | exact Or.inr rfl))) (fun _ _ _ _ _ => (pts_one (pt_val (pe_has d_law_d_answers (hr.mono (by decide)) pass0 (by exact (pa_cons (pv 1) (pa_cons (pv 2) (pa_cons (pv 3) pa_nil)))))))) (fun _ _ _ _ _ => (pv 3))) pa_nil))))), ?_⟩
  obtain ⟨ws, h1, hW⟩ := Each.ofAt hc
  refine ⟨_, rfl, c, rfl, ⟨_, SqL.of h1⟩, fun Dd hD => lcL (R := fun _ v p => At H v p) (S := (At : Rel Str)) (f := fun x => if ansB ps ms x = true then some x else none) (xs := ns) ⟨fun _ _ _ _ _ h => h⟩ at_stays (fun _ e => SqL.of (e _ _ h1)) hW hD (by omega) (fun v x H2 e2 hv hx Kn Ky kn ky => ?_) (fun H2 md => ?_)⟩
  · obtain ⟨rfl, hxok⟩ := id hv
    refine ⟨rfl, _, rfl, _, rfl, _, rfl, a, b, ps, ms, x, rfl, Enc.mono e2 hat, Enc.mono e2 hb, hl, fun H3 e3 => ⟨_, rfl, ?_⟩⟩
    cases hq : ansB ps ms x with
    | true => exact iteT ⟨_, rfl, ky _ x _ e3 (by rw [hq]; rfl) fun _ _ _ => at_str hxok⟩
    | false => exact iteF (kn _ e3 (by rw [hq]; rfl))
  · rw [fm_if] at md
    obtain ⟨hn, ex, ws', hD', hw⟩ := md
    refine ⟨.ref Dd, _, rfl, at_list hD' (Each.mono del_sub hw), fun p ws2 hp hw2 => q p _ (fresh_back ex hp) (ex.trans (Ex.new hp)) ?_⟩
    rw [srt_filter] at hw2
    exact at_list upd_same (hw2.mono (Ex.new hp))
abbrev s_law_least : Stmt := top 78
theorem sc_law_least : FnScope ["_law_names", "_law_pairs", "_law_found", "_law_later"] ["_law_names", "_law_pairs"] (defScope s_law_least) := ⟨rfl, rfl, rfl, by decide +kernel, rfl, by decide +kernel, by decide +kernel⟩
def sp_law_least : Sp := fun vs H Q _ => ∃ (c a : Addr) (ns : List Str) (ps : List Pr), vs = [.ref c, .ref a] ∧ At H (.ref c) ns ∧ At H (.ref a) ps ∧ ps.length ≤ 1000 ∧ ns.length ≤ 1000 ∧ ∀ p H', H p = none → Ex H H' → At H' (.ref p) (leastL (srt ns) ps) → Q (.ref p) H'
theorem has_law_least (T : Txt K mg) (d : Def K mg "_law_least" s_law_least) (d_law_d_answered : Has P w K mg base CX0 "_law_d_answered" ["_law_names", "_law_pairs", "_law_lot"] 4 sp_law_d_answered)  :
    Has P w K mg base CX0 "_law_least" ["_law_names", "_law_pairs"] 5 sp_law_least := by
  obtain ⟨f, fd, F, m⟩ := d
  have sc := sc_law_least
  refine ⟨f, fd, F.ok (k := 4) sc (fun vs H Q E h => (by first | (obtain ⟨h, _⟩ := h; rw [h]; rfl) | (obtain ⟨_, h, _⟩ := h; rw [h]; rfl) | (obtain ⟨_, _, h, _⟩ := h; rw [h]; rfl) | (obtain ⟨_, _, _, h, _⟩ := h; rw [h]; rfl) | (obtain ⟨_, _, _, _, h, _⟩ := h; rw [h]; rfl) | (obtain ⟨_, _, _, _, _, h, _⟩ := h; rw [h]; rfl) | (obtain ⟨_, _, _, _, _, _, h, _⟩ := h; rw [h]; rfl) | (obtain ⟨_, _, _, _, _, _, _, h, _⟩ := h; rw [h]; rfl) | (obtain ⟨_, _, _, _, _, _, _, _, h, _⟩ := h; rw [h]; rfl) | (obtain ⟨_, _, _, _, _, _, _, _, _, h, _⟩ := h; rw [h]; rfl) | (obtain ⟨_, _, _, _, _, _, _, _, _, _, h, _⟩ := h; rw [h]; rfl))) (fun cdv A outer s H vs Q E hr h => ?_), m, F.kp, F.binds fun _ _ _ _ _ _ us hl => match us, hl with | [_, _], _ => rfl⟩
  obtain ⟨c, a, ns, ps, rfl, hc, hat, hl, hln, q⟩ := h
  refine ⟨_, ((pss_cons (ps_par (i := 2) (j := 3) (by rfl) sc.nd rfl rfl (by decide) rfl rfl (by exact (pa_cons pe_non (pa_cons (pe_lst pa_nil) pa_nil))) (by rfl))
    (pss_cons (ps_while PassesOwn.never (pt_cmpR (op_neO (α := Str) (by decide) (hu64 hr)) (pv 3) (pv 2) (nomark _))
      (pss_cons (ps_set (i := 2) sc.nd rfl (by first | exact Or.inl rfl | exact Or.inr rfl) (pv 3))
      (pss_one (ps_set (i := 3) sc.nd rfl (by first | exact Or.inl rfl | exact Or.inr rfl) (pe_has d_law_d_answered (hr.mono (by decide)) pass0 (by exact (pa_cons (pv 0) (pa_cons (pv 1) (pa_cons (pv 2) pa_nil)))))))))
    (pss_one (ps_ret (pv 2)))))), ?_⟩
  refine ⟨(by show 0 ≤ _; exact Nat.zero_le _), fun p0 hp0 => ⟨_, _, rfl, ?_⟩⟩
  have nl : (srt ns).length = ns.length := srt_length ns
  have ok : ∀ k, ∀ x ∈ iterL (srt ns) ps k, x ∈ ns := fun k x hx => srt_mem.mp (iterL_in k x hx)
  refine ⟨fun n σ H' => ∃ f l, σ = [some (.ref c), some (.ref a), some f, some (.ref l)] ∧ H l = none ∧ Ex H H' ∧ ((f = .non ∧ n = ns.length + 2 ∧ At H' (.ref l) (iterL (srt ns) ps 0)) ∨ ∃ j b, f = .ref b ∧ H b = none ∧ At H' f (iterL (srt ns) ps j) ∧ At H' (.ref l) (iterL (srt ns) ps (j + 1)) ∧ n + j = ns.length + 1), ⟨_, _, p0, rfl, hp0, Ex.new hp0, Or.inl ⟨rfl, rfl, at_list upd_same .nil⟩⟩, ?_⟩
  rintro n σ H' ⟨f, l, rfl, hln', e, hh⟩
  rcases hh with ⟨rfl, hn, hl'⟩ | ⟨j, b, rfl, hb, hf, hl', hn⟩
  · refine ⟨_, rfl, _, rfl, _, hl', Or.inl ⟨rfl, _, rfl, ?_⟩⟩
    refine ⟨fun σ' H2 => ∃ m', m' < n ∧ ∃ f l, σ' = [some (.ref c), some (.ref a), some f, some (.ref l)] ∧ H l = none ∧ Ex H H2 ∧ ((f = .non ∧ m' = ns.length + 2 ∧ At H2 (.ref l) (iterL (srt ns) ps 0)) ∨ ∃ j b, f = .ref b ∧ H b = none ∧ At H2 f (iterL (srt ns) ps j) ∧ At H2 (.ref l) (iterL (srt ns) ps (j + 1)) ∧ m' + j = ns.length + 1), fun σ' H2 h => h, ?_⟩
    exact ⟨_, rfl, _, rfl, _, rfl, _, rfl, c, a, l, ns, ps, _, rfl, Enc.mono e hc, Enc.mono e hat, hl', hl, hln, fun p H2 hp e2 h2 => ⟨ns.length + 1, by omega, _, p, rfl, fresh_back e hp, e.trans e2, Or.inr ⟨0, l, rfl, hln', Enc.mono e2 hl', h2, by omega⟩⟩⟩
  · refine ⟨_, rfl, _, rfl, _, hl', Or.inr ⟨_, hf, _, rfl, ?_⟩⟩
    by_cases hq : iterL (srt ns) ps (j + 1) = iterL (srt ns) ps j
    · refine iteND hq ⟨_, rfl, q b H' hb e ?_⟩
      rw [← leastL_of hq]
      exact hf
    · have hj : ¬ (srt ns).length ≤ j := fun h => hq (iterL_fix h)
      refine iteNDn hq ⟨fun σ' H2 => ∃ m', m' < n ∧ ∃ f l, σ' = [some (.ref c), some (.ref a), some f, some (.ref l)] ∧ H l = none ∧ Ex H H2 ∧ ((f = .non ∧ m' = ns.length + 2 ∧ At H2 (.ref l) (iterL (srt ns) ps 0)) ∨ ∃ j b, f = .ref b ∧ H b = none ∧ At H2 f (iterL (srt ns) ps j) ∧ At H2 (.ref l) (iterL (srt ns) ps (j + 1)) ∧ m' + j = ns.length + 1), fun σ' H2 h => h, ?_⟩
      exact ⟨_, rfl, _, rfl, _, rfl, _, rfl, c, a, l, ns, ps, _, rfl, Enc.mono e hc, Enc.mono e hat, hl', hl, hln, fun p H2 hp e2 h2 => ⟨n - 1, by omega, _, p, rfl, fresh_back e hp, e.trans e2, Or.inr ⟨j + 1, l, rfl, hln', Enc.mono e2 hl', h2, by omega⟩⟩⟩
end
end K73
set_option maxRecDepth 100000
set_option maxHeartbeats 4000000
namespace K73
open Enc (At enc)
open PySem L2 Evl
/-! ### trees of data, and the law's _law_same -/
inductive Tr where
  | non | bl (b : Bool) | int (i : Int) | str (x : Str) | lst (ts : List Tr) | tup (ts : List Tr) | dic (ts : List Tr)
def keyTr : Key → Tr
  | .inl i => .int i
  | .inr x => .str x
theorem paired_all {α β : Type} {F : α → β → Prop} : ∀ {l : List α} {m : List β}, l.length = m.length → (∀ (i : Nat) (v : α) (t : β), l[i]? = some v → m[i]? = some t → F v t) → Paired F l m
  | [], [], _, _ => .nil
  | [], _ :: _, h, _ => by cases h
  | _ :: _, [], h, _ => by cases h
  | a :: l, b :: m, h, hp => .cons (hp 0 a b rfl rfl) (paired_all (Nat.succ.inj h) fun i v t h1 h2 => hp (i + 1) v t (by simpa using h1) (by simpa using h2))
theorem all_paired {α β : Type} {F : α → β → Prop} {l : List α} {m : List β} (h : Paired F l m) (i : Nat) (v : α) (t : β) (h1 : l[i]? = some v) (h2 : m[i]? = some t) : F v t := by
  obtain ⟨x, h3, h4⟩ := Paired.get h h1
  rw [h2] at h3
  cases h3
  exact h4
/-- the value bears the tree, not deeper than n -/
inductive TrAt (H : Hp) : Nat → V → Tr → Prop
  | non (n : Nat) : TrAt H n .non .non
  | bl (n : Nat) (b : Bool) : TrAt H n (.bl b) (.bl b)
  | int (n : Nat) (i : Int) : TrAt H n (.int i) (.int i)
  | str (n : Nat) (x : Str) : TrAt H n (.str x) (.str x)
  | lst' {n : Nat} {a : Addr} {vs : List V} {ts : List Tr} (h : H a = some (.lst vs)) (hl : vs.length ≤ 10000) (hn : vs.length = ts.length) (hp : ∀ (i : Nat) (v : V) (t : Tr), vs[i]? = some v → ts[i]? = some t → TrAt H n v t) : TrAt H (n + 1) (.ref a) (.lst ts)
  | tup' {n : Nat} {a : Addr} {vs : List V} {ts : List Tr} (h : H a = some (.tup vs)) (hl : vs.length ≤ 10000) (hn : vs.length = ts.length) (hp : ∀ (i : Nat) (v : V) (t : Tr), vs[i]? = some v → ts[i]? = some t → TrAt H n v t) : TrAt H (n + 1) (.ref a) (.tup ts)
  | dK' {n : Nat} {a : Addr} {kvs : List (Key × V)} {vts : List Tr} (h : H a = some (.dK kvs)) (hl : kvs.length ≤ 10000) (hn : (kvs.map (·.2)).length = vts.length) (hp : ∀ (i : Nat) (v : V) (t : Tr), (kvs.map (·.2))[i]? = some v → vts[i]? = some t → TrAt H n v t) : TrAt H (n + 3) (.ref a) (.dic ((kvs.zip vts).map fun z => .tup [keyTr z.1.1, z.2]))
  | dT' {n : Nat} {a : Addr} {kvs : List (List Key × V)} {vts : List Tr} (h : H a = some (.dT kvs)) (hl : kvs.length ≤ 10000) (hk : ∀ q ∈ kvs, q.1.length ≤ 10000) (hn : (kvs.map (·.2)).length = vts.length) (hp : ∀ (i : Nat) (v : V) (t : Tr), (kvs.map (·.2))[i]? = some v → vts[i]? = some t → TrAt H (n + 1) v t) : TrAt H (n + 4) (.ref a) (.dic ((kvs.zip vts).map fun z => .tup [.tup (z.1.1.map keyTr), z.2]))
theorem TrAt.lst {H : Hp} {n : Nat} {a : Addr} {vs : List V} {ts : List Tr} (h : H a = some (.lst vs)) (hl : vs.length ≤ 10000) (hp : Paired (TrAt H n) vs ts) : TrAt H (n + 1) (.ref a) (.lst ts) := .lst' h hl hp.length (all_paired hp)
theorem TrAt.tup {H : Hp} {n : Nat} {a : Addr} {vs : List V} {ts : List Tr} (h : H a = some (.tup vs)) (hl : vs.length ≤ 10000) (hp : Paired (TrAt H n) vs ts) : TrAt H (n + 1) (.ref a) (.tup ts) := .tup' h hl hp.length (all_paired hp)
theorem TrAt.dK {H : Hp} {n : Nat} {a : Addr} {kvs : List (Key × V)} {vts : List Tr} (h : H a = some (.dK kvs)) (hl : kvs.length ≤ 10000) (hp : Paired (TrAt H n) (kvs.map (·.2)) vts) : TrAt H (n + 3) (.ref a) (.dic ((kvs.zip vts).map fun z => .tup [keyTr z.1.1, z.2])) := .dK' h hl hp.length (all_paired hp)
theorem TrAt.dT {H : Hp} {n : Nat} {a : Addr} {kvs : List (List Key × V)} {vts : List Tr} (h : H a = some (.dT kvs)) (hl : kvs.length ≤ 10000) (hk : ∀ q ∈ kvs, q.1.length ≤ 10000) (hp : Paired (TrAt H (n + 1)) (kvs.map (·.2)) vts) : TrAt H (n + 4) (.ref a) (.dic ((kvs.zip vts).map fun z => .tup [.tup (z.1.1.map keyTr), z.2])) := .dT' h hl hk hp.length (all_paired hp)
theorem TrAt.up {H : Hp} {n : Nat} {v : V} {t : Tr} (h : TrAt H 0 v t) : TrAt H n v t := by
  cases h with
  | non => exact .non n
  | bl _ b => exact .bl n b
  | int _ i => exact .int n i
  | str _ x => exact .str n x
theorem TrAt.mono {H H' : Hp} (e : Ex H H') {n : Nat} {v : V} {t : Tr} (h : TrAt H n v t) : TrAt H' n v t := by
  induction h with
  | non n => exact .non n
  | bl n b => exact .bl n b
  | int n i => exact .int n i
  | str n x => exact .str n x
  | lst' h hl hn _ ih => exact .lst' (e _ _ h) hl hn ih
  | tup' h hl hn _ ih => exact .tup' (e _ _ h) hl hn ih
  | dK' h hl hn _ ih => exact .dK' (e _ _ h) hl hn ih
  | dT' h hl hk hn _ ih => exact .dT' (e _ _ h) hl hk hn ih
def Tr.kn : Tr → KN
  | .non => .non | .bl _ => .bl | .int _ => .int | .str _ => .str | .lst _ => .lst | .tup _ => .tup | .dic _ => .dct
theorem TrAt.knd {H : Hp} {n : Nat} {v : V} {t : Tr} (h : TrAt H n v t) : Knd H v t.kn := by
  cases h with
  | non => exact .non
  | bl _ b => exact .bl b
  | int _ i => exact .int i
  | str _ x => exact .str x
  | lst' h => exact .lst h
  | tup' h => exact .tup h
  | dK' h => exact .dK h
  | dT' h => exact .dT h
theorem keyTr_at {H : Hp} (n : Nat) (k : Key) : TrAt H n (kV k) (keyTr k) := by
  cases k with
  | inl i => exact .int n i
  | inr x => exact .str n x
theorem keysTr_at {H : Hp} (n : Nat) : ∀ ks : List Key, Paired (TrAt H n) (ks.map kV) (ks.map keyTr)
  | [] => .nil
  | k :: ks => .cons (keyTr_at n k) (keysTr_at n ks)
/-- the items of a dict, laid as a list of pairs, bear the dict's tree -/
theorem itemsK_at {H H' : Hp} {n : Nat} (e : Ex H H') : ∀ {ts : List Addr} {kvs : List (Key × V)} {vts : List Tr}, Paired (fun (t : Addr) (q : Key × V) => H' t = some (.tup [kV q.1, q.2])) ts kvs → Paired (TrAt H n) (kvs.map (·.2)) vts →
    Paired (TrAt H' (n + 1)) (ts.map V.ref) ((kvs.zip vts).map fun z => Tr.tup [keyTr z.1.1, z.2])
  | _, _, _, .nil, .nil => .nil
  | _, _, _, .cons h t, .cons g r => .cons (.tup h (by show 2 ≤ 10000; omega) (.cons (keyTr_at n _) (.cons (g.mono e) .nil))) (itemsK_at e t r)
theorem itemsT_at {H H' : Hp} {n : Nat} (e : Ex H H') : ∀ {ts : List Addr} {kvs : List (List Key × V)} {vts : List Tr}, Paired (fun (t : Addr) (q : List Key × V) => ∃ b, H' t = some (.tup [.ref b, q.2]) ∧ H' b = some (.tup (q.1.map kV))) ts kvs → (∀ q ∈ kvs, q.1.length ≤ 10000) → Paired (TrAt H (n + 1)) (kvs.map (·.2)) vts →
    Paired (TrAt H' (n + 2)) (ts.map V.ref) ((kvs.zip vts).map fun z => Tr.tup [.tup (z.1.1.map keyTr), z.2])
  | _, _, _, .nil, _, .nil => .nil
  | _, _, _, .cons ⟨b, h1, h2⟩ t, hk, .cons g r => .cons (.tup h1 (by show 2 ≤ 10000; omega) (.cons (.tup h2 (by rw [List.length_map]; exact hk _ List.mem_cons_self) (keysTr_at n _)) (.cons (g.mono e) .nil))) (itemsT_at e t (fun q hq => hk q (List.mem_cons_of_mem _ hq)) r)
theorem items_of {H H1 : Hp} {n : Nat} {v : V} {its : List Tr} (h : TrAt H (n + 1) v (.dic its)) (e : Ex H H1) {Q : VK} (q : ∀ H' p, Ex H1 H' → TrAt H' n (.ref p) (.lst its) → Q (.ref p) H') : rItemsX v H1 Q := by
  generalize hn : n + 1 = m at h
  generalize ht : Tr.dic its = t at h
  cases h with
  | @dK' k a kvs vts h1 hl hn1 hp =>
    have hn' : n = k + 2 := by omega
    subst hn'
    cases ht
    refine ⟨a, rfl, Or.inl ⟨kvs, e _ _ h1, fun H' p ts e' hp0 hts hpt hl' hP => q H' p e' ?_⟩⟩
    have lt := hP.length
    exact .lst hl' (by rw [List.length_map]; omega) (itemsK_at (e.trans e') hP (paired_all hn1 hp))
  | @dT' k a kvs vts h1 hl hk hn1 hp =>
    have hn' : n = k + 3 := by omega
    subst hn'
    cases ht
    refine ⟨a, rfl, Or.inr ⟨kvs, e _ _ h1, fun H' p ts e' hp0 hts hpt hl' hP => q H' p e' ?_⟩⟩
    have lt := hP.length
    exact .lst hl' (by rw [List.length_map]; omega) (itemsT_at (e.trans e') hP hk (paired_all hn1 hp))
  | _ => cases ht
section
variable {P : Program} {w : World} {K : PySem.W.Frag} {mg : Str → Option Value} {base : Heap} {C : Addr}
abbrev s_law_same : Stmt := top 68
theorem sc_law_same : FnScope ["_law_found", "_law_due", "_law_x", "_law_y"] ["_law_found", "_law_due"] (defScope s_law_same) := ⟨rfl, rfl, rfl, by decide +kernel, rfl, by decide +kernel, by decide +kernel⟩
def sp_same (n : Nat) : Sp := fun vs H Q _ => ∃ (x y : V) (t : Tr), vs = [x, y] ∧ TrAt H n x t ∧ TrAt H n y t ∧ ∀ H', Ex H H' → Q (.bl true) H'
/-- the walk over a leaf, or with the promise one below -/
theorem same_zip {n : Nat} {u v : V} {H H1 : Hp} {J : It} {xs ys : List V} {ts : List Tr} {D : Addr} {Qd : Hp → Prop} (e : Ex H H1) (hx : Paired (TrAt H n) xs ts) (hy : Paired (TrAt H n) ys ts) (hl : xs.length ≤ 10000) (hD : H1 D = none)
    (go : ∀ i H', Ex H1 H' → i < ts.length → J.go i H') (stop : ∀ H', Ex H1 H' → J.stop ts.length H') (yl : ∀ i H' v H2, Ex H1 H' → i < ts.length → J.yld i H' v H2 → ∃ T x y, v = .ref T ∧ H' T = none ∧ H2 = upd H' T (.tup [x, y]) ∧ xs[i]? = some x ∧ ys[i]? = some y)
    (hd : ∀ H', Ex H1 H' → H' D = some (.lst ((ts.map fun _ => true).map V.bl)) → Qd H') :
    ∃ W : Nat → Nat → Hp → Prop, (∃ m, W 0 m (upd H1 D (.lst []))) ∧ ∀ i m H, W i m H →
      (J.stop i H ∧ Qd H) ∨ (J.go i H ∧ ∃ Nx : Hp → Prop, (∀ H', Nx H' → ∃ m', m' < m ∧ W (i + 1) m' H') ∧ ∀ x H', J.yld i H x H' → gTup K 2 (gCons (gName 2) (gCons (gName 3) gNil)) x (wipe [some u, some v, none, none] [2, 3]) H' fun σ2 H2 => wipe σ2 [2, 3] = wipe [some u, some v, none, none] [2, 3] ∧ tYes σ2 H2 fun b H3 =>
        if b = true then tCall (sp_same n) [] E0 (tCons (tVar 2) (tCons (tVar 3) tNil)) σ2 H3 fun y H4 => ∃ acc, H4 D = some (.lst acc) ∧ acc.length < sizeLine ∧ Nx (upd H4 D (.lst (acc ++ [y]))) else Nx H3) := by
  have lx := hx.length
  have s1 : (10001 : Nat) < sizeLine := by decide
  refine lcW ts.length (fun i H' => Ex H1 H' ∧ H' D = some (.lst (((ts.take i).map fun _ => true).map V.bl))) ⟨Ex.new hD, upd_same⟩ (fun i H' hi h => go i H' h.1 hi) (fun H' h => stop H' h.1) ?_ ?_
  · rintro i H' z H2 hi ⟨e1, hd1⟩ hyl
    obtain ⟨T', x, y, rfl, hT, rfl, h1, h2⟩ := yl i H' z H2 e1 hi hyl
    obtain ⟨t, ht, hx'⟩ := Paired.get hx h1
    obtain ⟨t', ht', hy'⟩ := Paired.get hy h2
    rw [ht] at ht'
    cases ht'
    have e2 := (e.trans e1).trans (Ex.new (o := .tup [x, y]) hT)
    refine ⟨T', _, rfl, SqT.of upd_same, rfl, _, _, rfl, _, _, rfl, ⟨rfl, rfl, _, rfl, _, rfl, x, y, t, rfl, hx'.mono e2, hy'.mono e2, fun H3 e3 => ?_⟩⟩
    refine ⟨_, e3 _ _ (Ex.new hT _ _ hd1), by rw [List.length_map, List.length_map, List.length_take]; omega, Ex.mut ((e1.trans (Ex.new hT)).trans e3) hD, ?_⟩
    rw [upd_same, take_more ht, List.map_append, List.map_append]
    rfl
  · rintro H' ⟨e1, hd1⟩
    rw [List.take_length] at hd1
    exact hd H' e1 hd1
theorem has_law_same0 (T : Txt K mg) (d : Def K mg "_law_same" s_law_same) (d_law_same : Has P w K mg base CX0 "_law_same" ["_law_found", "_law_due"] 0 sp_none)  :
    Has P w K mg base CX0 "_law_same" ["_law_found", "_law_due"] 2 (sp_same 0) := by
  obtain ⟨f, fd, F, m⟩ := d
  have sc := sc_law_same
  refine ⟨f, fd, F.ok (k := 1) sc (fun vs H Q E h => (by first | (obtain ⟨h, _⟩ := h; rw [h]; rfl) | (obtain ⟨_, h, _⟩ := h; rw [h]; rfl) | (obtain ⟨_, _, h, _⟩ := h; rw [h]; rfl) | (obtain ⟨_, _, _, h, _⟩ := h; rw [h]; rfl) | (obtain ⟨_, _, _, _, h, _⟩ := h; rw [h]; rfl) | (obtain ⟨_, _, _, _, _, h, _⟩ := h; rw [h]; rfl) | (obtain ⟨_, _, _, _, _, _, h, _⟩ := h; rw [h]; rfl) | (obtain ⟨_, _, _, _, _, _, _, h, _⟩ := h; rw [h]; rfl) | (obtain ⟨_, _, _, _, _, _, _, _, h, _⟩ := h; rw [h]; rfl) | (obtain ⟨_, _, _, _, _, _, _, _, _, h, _⟩ := h; rw [h]; rfl) | (obtain ⟨_, _, _, _, _, _, _, _, _, _, h, _⟩ := h; rw [h]; rfl))) (fun cdv A outer s H vs Q E hr h => ?_), m, F.kp, F.binds fun _ _ _ _ _ _ us hl => match us, hl with | [_, _], _ => rfl⟩
  obtain ⟨x, y, t, rfl, hx, hy, q⟩ := h
  refine ⟨_, ((pss_cons (ps_if (pt_val (pe_callB call_isT (by rfl) T.b_isinstance (by decide +kernel) (pa_cons (pv 1) (pa_cons (pe_tup (pa_cons (pe_bltn (v := .ty "list") (by rfl) T.b_list (by decide +kernel) rfl) (pa_cons (pe_bltn (v := .ty "tuple") (by rfl) T.b_tuple (by decide +kernel) rfl) pa_nil))) pa_nil))))
      (pss_cons (ps_if (PW.pt (pw_or (pt_cmpR op_ne (pe_callB call_is (by rfl) T.b_isinstance (by decide +kernel) (pa_cons (pv 0) (pa_cons (pe_bltn (v := .ty "list") (by rfl) T.b_list (by decide +kernel) rfl) pa_nil))) (pe_callB call_is (by rfl) T.b_isinstance (by decide +kernel) (pa_cons (pv 1) (pa_cons (pe_bltn (v := .ty "list") (by rfl) T.b_list (by decide +kernel) rfl) pa_nil))) (nomark _)) (pw_or1 (pt_cmpR op_ne (pe_callB call_is (by rfl) T.b_isinstance (by decide +kernel) (pa_cons (pv 0) (pa_cons (pe_bltn (v := .ty "tuple") (by rfl) T.b_tuple (by decide +kernel) rfl) pa_nil))) (pe_callB call_is (by rfl) T.b_isinstance (by decide +kernel) (pa_cons (pv 1) (pa_cons (pe_bltn (v := .ty "tuple") (by rfl) T.b_tuple (by decide +kernel) rfl) pa_nil))) (nomark _)))))
        (pss_one (ps_ret pe_bl))
        pss_nil)
      (pss_one (ps_ret (pe_and (pe_cmpR op_eq (pe_callB (call_len_seqK K rfl) (by rfl) T.b_len (by decide +kernel) (pa_cons (pv 0) pa_nil)) (pe_callB (call_len_seqK K rfl) (by rfl) T.b_len (by decide +kernel) (pa_cons (pv 1) pa_nil)) (nomark _)) (pe_one (pe_callB (cr_allK K rfl rfl) (by rfl) T.b_all (by decide +kernel) (pa_cons (pe_lc (own := [("_law_x", 2), ("_law_y", 3)]) rfl sc.nd (pi_zipK K rfl (by rfl) T.b_zip (pa_cons (pv 0) (pa_cons (pv 1) pa_nil))) (blkOk_by (own := [("_law_x", 2), ("_law_y", 3)]) (N := ["_law_found", "_law_due", "_law_x", "_law_y"]) (sc := defScope s_law_same) (by decide +kernel)) (fun _ _ _ _ _ => (pg_tupK (n := 2) K rfl rfl (pgs_cons (pg_name (i := 2) sc.nd rfl (by first | exact Or.inl rfl | exact Or.inr rfl)) (pgs_cons (pg_name (i := 3) sc.nd rfl (by first | exact Or.inl rfl | exact Or.inr rfl)) pgs_nil)))) (fun _ _ _ _ _ => pts_nil) (fun _ _ _ _ _ => (pe_has d_law_same (hr.mono (by decide)) pass0 (by exact (pa_cons (pv 2) (pa_cons (pv 3) pa_nil)))))) pa_nil)))))))
      pss_nil)
    (pss_cons (ps_if (pt_val (pe_callB call_is (by rfl) T.b_isinstance (by decide +kernel) (pa_cons (pv 1) (pa_cons (pe_bltn (v := .ty "dict") (by rfl) T.b_dict (by decide +kernel) rfl) pa_nil))))
      (pss_one (ps_ret (pe_and (pe_callB call_is (by rfl) T.b_isinstance (by decide +kernel) (pa_cons (pv 0) (pa_cons (pe_bltn (v := .ty "dict") (by rfl) T.b_dict (by decide +kernel) rfl) pa_nil))) (pe_one (pe_has d_law_same (hr.mono (by decide)) pass0 (by exact (pa_cons (pe_listItemsX rfl (pv 0) (by rfl) T.b_list (by decide +kernel)) (pa_cons (pe_listItemsX rfl (pv 1) (by rfl) T.b_list (by decide +kernel)) pa_nil))))))))
      pss_nil)
    (pss_cons (ps_if (pt_val (pe_callB call_is (by rfl) T.b_isinstance (by decide +kernel) (pa_cons (pv 1) (pa_cons (pe_bltn (v := .ty "int") (by rfl) T.b_int (by decide +kernel) rfl) pa_nil))))
      (pss_one (ps_ret (pe_and (pe_callB call_is (by rfl) T.b_isinstance (by decide +kernel) (pa_cons (pv 0) (pa_cons (pe_bltn (v := .ty "int") (by rfl) T.b_int (by decide +kernel) rfl) pa_nil))) (pe_and (pe_cmpR op_eq (pe_callB call_is (by rfl) T.b_isinstance (by decide +kernel) (pa_cons (pv 0) (pa_cons (pe_bltn (v := .ty "bool") (by rfl) T.b_bool (by decide +kernel) rfl) pa_nil))) (pe_callB call_is (by rfl) T.b_isinstance (by decide +kernel) (pa_cons (pv 1) (pa_cons (pe_bltn (v := .ty "bool") (by rfl) T.b_bool (by decide +kernel) rfl) pa_nil))) (nomark _)) (pe_one (pe_cmpR op_eq (pv 0) (pv 1) (nomark _)))))))
      pss_nil)
    (pss_one (ps_ret (pe_and (pe_not (pe_callB call_isT (by rfl) T.b_isinstance (by decide +kernel) (pa_cons (pv 0) (pa_cons (pe_tup (pa_cons (pe_bltn (v := .ty "int") (by rfl) T.b_int (by decide +kernel) rfl) (pa_cons (pe_bltn (v := .ty "list") (by rfl) T.b_list (by decide +kernel) rfl) (pa_cons (pe_bltn (v := .ty "tuple") (by rfl) T.b_tuple (by decide +kernel) rfl) (pa_cons (pe_bltn (v := .ty "dict") (by rfl) T.b_dict (by decide +kernel) rfl) pa_nil))))) pa_nil)))) (pe_one (pe_cmpR op_eq (pv 0) (pv 1) (nomark _)))))))))), ?_⟩
  cases hx with
  | int _ i =>
    cases hy
    refine ⟨_, rfl, (by show 2 ≤ sizeLine; decide), fun p hp => ⟨_, p, .int, [.lst, .tup], rfl, upd_same, by decide, .int i, _, rfl, iteF ?_⟩⟩
    refine ⟨_, rfl, _, .int, .dct, rfl, by decide, .int i, _, rfl, iteF ?_⟩
    refine ⟨_, rfl, _, .int, .int, rfl, by decide, .int i, _, rfl, iteT ?_⟩
    refine ⟨_, rfl, _, .int, .int, rfl, by decide, .int i, _, rfl, iteT ?_⟩
    refine ⟨_, rfl, _, .int, .bl, rfl, by decide, .int i, _, rfl, _, .int, .bl, rfl, by decide, .int i, rfl, _, rfl, iteD rfl ⟨_, rfl, _, rfl, rfl, ?_⟩⟩
    show Q (.bl (decide (V.int i = V.int i))) _
    rw [decide_eq_true rfl]
    exact q _ (Ex.new hp)
  | bl _ i =>
    cases hy
    refine ⟨_, rfl, (by show 2 ≤ sizeLine; decide), fun p hp => ⟨_, p, .bl, [.lst, .tup], rfl, upd_same, by decide, .bl i, _, rfl, iteF ?_⟩⟩
    refine ⟨_, rfl, _, .bl, .dct, rfl, by decide, .bl i, _, rfl, iteF ?_⟩
    refine ⟨_, rfl, _, .bl, .int, rfl, by decide, .bl i, _, rfl, iteT ?_⟩
    refine ⟨_, rfl, _, .bl, .int, rfl, by decide, .bl i, _, rfl, iteT ?_⟩
    refine ⟨_, rfl, _, .bl, .bl, rfl, by decide, .bl i, _, rfl, _, .bl, .bl, rfl, by decide, .bl i, rfl, _, rfl, iteD rfl ⟨_, rfl, _, rfl, rfl, ?_⟩⟩
    show Q (.bl (decide (V.bl i = V.bl i))) _
    rw [decide_eq_true rfl]
    exact q _ (Ex.new hp)
  | str _ i =>
    cases hy
    refine ⟨_, rfl, (by show 2 ≤ sizeLine; decide), fun p hp => ⟨_, p, .str, [.lst, .tup], rfl, upd_same, by decide, .str i, _, rfl, iteF ?_⟩⟩
    refine ⟨_, rfl, _, .str, .dct, rfl, by decide, .str i, _, rfl, iteF ?_⟩
    refine ⟨_, rfl, _, .str, .int, rfl, by decide, .str i, _, rfl, iteF ?_⟩
    refine ⟨_, rfl, (by show 4 ≤ sizeLine; decide), fun p2 hp2 => ⟨_, p2, .str, [.int, .lst, .tup, .dct], rfl, upd_same, by decide, .str i, _, rfl, _, rfl, iteT ⟨_, rfl, _, rfl, rfl, ?_⟩⟩⟩
    show Q (.bl (decide (V.str i = V.str i))) _
    rw [decide_eq_true rfl]
    exact q _ ((Ex.new hp).trans (Ex.new hp2))
  | non =>
    cases hy
    refine ⟨_, rfl, (by show 2 ≤ sizeLine; decide), fun p hp => ⟨_, p, .non, [.lst, .tup], rfl, upd_same, by decide, .non, _, rfl, iteF ?_⟩⟩
    refine ⟨_, rfl, _, .non, .dct, rfl, by decide, .non, _, rfl, iteF ?_⟩
    refine ⟨_, rfl, _, .non, .int, rfl, by decide, .non, _, rfl, iteF ?_⟩
    refine ⟨_, rfl, (by show 4 ≤ sizeLine; decide), fun p2 hp2 => ⟨_, p2, .non, [.int, .lst, .tup, .dct], rfl, upd_same, by decide, .non, _, rfl, _, rfl, iteT ⟨_, rfl, _, rfl, rfl, ?_⟩⟩⟩
    show Q (.bl (decide (V.non = V.non))) _
    rw [decide_eq_true rfl]
    exact q _ ((Ex.new hp).trans (Ex.new hp2))
theorem has_law_same1 (T : Txt K mg) (d : Def K mg "_law_same" s_law_same) {n : Nat} (d_law_same : Has P w K mg base CX0 "_law_same" ["_law_found", "_law_due"] (n+2) (sp_same n))  :
    Has P w K mg base CX0 "_law_same" ["_law_found", "_law_due"] (n+3) (sp_same (n+1)) := by
  obtain ⟨f, fd, F, m⟩ := d
  have sc := sc_law_same
  refine ⟨f, fd, F.ok (k := (n+2)) sc (fun vs H Q E h => (by first | (obtain ⟨h, _⟩ := h; rw [h]; rfl) | (obtain ⟨_, h, _⟩ := h; rw [h]; rfl) | (obtain ⟨_, _, h, _⟩ := h; rw [h]; rfl) | (obtain ⟨_, _, _, h, _⟩ := h; rw [h]; rfl) | (obtain ⟨_, _, _, _, h, _⟩ := h; rw [h]; rfl) | (obtain ⟨_, _, _, _, _, h, _⟩ := h; rw [h]; rfl) | (obtain ⟨_, _, _, _, _, _, h, _⟩ := h; rw [h]; rfl) | (obtain ⟨_, _, _, _, _, _, _, h, _⟩ := h; rw [h]; rfl) | (obtain ⟨_, _, _, _, _, _, _, _, h, _⟩ := h; rw [h]; rfl) | (obtain ⟨_, _, _, _, _, _, _, _, _, h, _⟩ := h; rw [h]; rfl) | (obtain ⟨_, _, _, _, _, _, _, _, _, _, h, _⟩ := h; rw [h]; rfl))) (fun cdv A outer s H vs Q E hr h => ?_), m, F.kp, F.binds fun _ _ _ _ _ _ us hl => match us, hl with | [_, _], _ => rfl⟩
  obtain ⟨x, y, t, rfl, hx, hy, q⟩ := h
  refine ⟨_, ((pss_cons (ps_if (pt_val (pe_callB call_isT (by rfl) T.b_isinstance (by decide +kernel) (pa_cons (pv 1) (pa_cons (pe_tup (pa_cons (pe_bltn (v := .ty "list") (by rfl) T.b_list (by decide +kernel) rfl) (pa_cons (pe_bltn (v := .ty "tuple") (by rfl) T.b_tuple (by decide +kernel) rfl) pa_nil))) pa_nil))))
      (pss_cons (ps_if (PW.pt (pw_or (pt_cmpR op_ne (pe_callB call_is (by rfl) T.b_isinstance (by decide +kernel) (pa_cons (pv 0) (pa_cons (pe_bltn (v := .ty "list") (by rfl) T.b_list (by decide +kernel) rfl) pa_nil))) (pe_callB call_is (by rfl) T.b_isinstance (by decide +kernel) (pa_cons (pv 1) (pa_cons (pe_bltn (v := .ty "list") (by rfl) T.b_list (by decide +kernel) rfl) pa_nil))) (nomark _)) (pw_or1 (pt_cmpR op_ne (pe_callB call_is (by rfl) T.b_isinstance (by decide +kernel) (pa_cons (pv 0) (pa_cons (pe_bltn (v := .ty "tuple") (by rfl) T.b_tuple (by decide +kernel) rfl) pa_nil))) (pe_callB call_is (by rfl) T.b_isinstance (by decide +kernel) (pa_cons (pv 1) (pa_cons (pe_bltn (v := .ty "tuple") (by rfl) T.b_tuple (by decide +kernel) rfl) pa_nil))) (nomark _)))))
        (pss_one (ps_ret pe_bl))
        pss_nil)
      (pss_one (ps_ret (pe_and (pe_cmpR op_eq (pe_callB (call_len_seqK K rfl) (by rfl) T.b_len (by decide +kernel) (pa_cons (pv 0) pa_nil)) (pe_callB (call_len_seqK K rfl) (by rfl) T.b_len (by decide +kernel) (pa_cons (pv 1) pa_nil)) (nomark _)) (pe_one (pe_callB (cr_allK K rfl rfl) (by rfl) T.b_all (by decide +kernel) (pa_cons (pe_lc (own := [("_law_x", 2), ("_law_y", 3)]) rfl sc.nd (pi_zipK K rfl (by rfl) T.b_zip (pa_cons (pv 0) (pa_cons (pv 1) pa_nil))) (blkOk_by (own := [("_law_x", 2), ("_law_y", 3)]) (N := ["_law_found", "_law_due", "_law_x", "_law_y"]) (sc := defScope s_law_same) (by decide +kernel)) (fun _ _ _ _ _ => (pg_tupK (n := 2) K rfl rfl (pgs_cons (pg_name (i := 2) sc.nd rfl (by first | exact Or.inl rfl | exact Or.inr rfl)) (pgs_cons (pg_name (i := 3) sc.nd rfl (by first | exact Or.inl rfl | exact Or.inr rfl)) pgs_nil)))) (fun _ _ _ _ _ => pts_nil) (fun _ _ _ _ _ => (pe_has d_law_same (hr.mono (by omega)) pass0 (by exact (pa_cons (pv 2) (pa_cons (pv 3) pa_nil)))))) pa_nil)))))))
      pss_nil)
    (pss_cons (ps_if (pt_val (pe_callB call_is (by rfl) T.b_isinstance (by decide +kernel) (pa_cons (pv 1) (pa_cons (pe_bltn (v := .ty "dict") (by rfl) T.b_dict (by decide +kernel) rfl) pa_nil))))
      (pss_one (ps_ret (pe_and (pe_callB call_is (by rfl) T.b_isinstance (by decide +kernel) (pa_cons (pv 0) (pa_cons (pe_bltn (v := .ty "dict") (by rfl) T.b_dict (by decide +kernel) rfl) pa_nil))) (pe_one (pe_has d_law_same (hr.mono (by omega)) pass0 (by exact (pa_cons (pe_listItemsX rfl (pv 0) (by rfl) T.b_list (by decide +kernel)) (pa_cons (pe_listItemsX rfl (pv 1) (by rfl) T.b_list (by decide +kernel)) pa_nil))))))))
      pss_nil)
    (pss_cons (ps_if (pt_val (pe_callB call_is (by rfl) T.b_isinstance (by decide +kernel) (pa_cons (pv 1) (pa_cons (pe_bltn (v := .ty "int") (by rfl) T.b_int (by decide +kernel) rfl) pa_nil))))
      (pss_one (ps_ret (pe_and (pe_callB call_is (by rfl) T.b_isinstance (by decide +kernel) (pa_cons (pv 0) (pa_cons (pe_bltn (v := .ty "int") (by rfl) T.b_int (by decide +kernel) rfl) pa_nil))) (pe_and (pe_cmpR op_eq (pe_callB call_is (by rfl) T.b_isinstance (by decide +kernel) (pa_cons (pv 0) (pa_cons (pe_bltn (v := .ty "bool") (by rfl) T.b_bool (by decide +kernel) rfl) pa_nil))) (pe_callB call_is (by rfl) T.b_isinstance (by decide +kernel) (pa_cons (pv 1) (pa_cons (pe_bltn (v := .ty "bool") (by rfl) T.b_bool (by decide +kernel) rfl) pa_nil))) (nomark _)) (pe_one (pe_cmpR op_eq (pv 0) (pv 1) (nomark _)))))))
      pss_nil)
    (pss_one (ps_ret (pe_and (pe_not (pe_callB call_isT (by rfl) T.b_isinstance (by decide +kernel) (pa_cons (pv 0) (pa_cons (pe_tup (pa_cons (pe_bltn (v := .ty "int") (by rfl) T.b_int (by decide +kernel) rfl) (pa_cons (pe_bltn (v := .ty "list") (by rfl) T.b_list (by decide +kernel) rfl) (pa_cons (pe_bltn (v := .ty "tuple") (by rfl) T.b_tuple (by decide +kernel) rfl) (pa_cons (pe_bltn (v := .ty "dict") (by rfl) T.b_dict (by decide +kernel) rfl) pa_nil))))) pa_nil)))) (pe_one (pe_cmpR op_eq (pv 0) (pv 1) (nomark _)))))))))), ?_⟩
  by_cases hd : ∃ its, t = .dic its
  · obtain ⟨its, rfl⟩ := hd
    have hkx := hx.knd
    have hky := hy.knd
    refine ⟨_, rfl, (by show 2 ≤ sizeLine; decide), fun p hp => ⟨_, p, .dct, [.lst, .tup], rfl, upd_same, by decide, hky.mono (Ex.new hp), _, rfl, iteF ?_⟩⟩
    have e1 : Ex H (upd H p (.tup [.ty "list", .ty "tuple"])) := Ex.new hp
    generalize upd H p (.tup [.ty "list", .ty "tuple"]) = H1 at e1
    refine ⟨_, rfl, _, .dct, .dct, rfl, by decide, hky.mono e1, _, rfl, iteT ?_⟩
    refine ⟨_, rfl, _, .dct, .dct, rfl, by decide, hkx.mono e1, _, rfl, iteT ⟨_, rfl, items_of hx e1 fun H2 p1 e2 t1 => ⟨_, rfl, items_of hy (e1.trans e2) fun H3 p2 e3 t2 => ?_⟩⟩⟩
    exact ⟨.ref p1, .ref p2, .lst its, rfl, t1.mono e3, t2, fun H4 e4 => q _ (((e1.trans e2).trans e3).trans e4)⟩
  cases hx with
  | int _ i =>
    cases hy
    refine ⟨_, rfl, (by show 2 ≤ sizeLine; decide), fun p hp => ⟨_, p, .int, [.lst, .tup], rfl, upd_same, by decide, .int i, _, rfl, iteF ?_⟩⟩
    refine ⟨_, rfl, _, .int, .dct, rfl, by decide, .int i, _, rfl, iteF ?_⟩
    refine ⟨_, rfl, _, .int, .int, rfl, by decide, .int i, _, rfl, iteT ?_⟩
    refine ⟨_, rfl, _, .int, .int, rfl, by decide, .int i, _, rfl, iteT ?_⟩
    refine ⟨_, rfl, _, .int, .bl, rfl, by decide, .int i, _, rfl, _, .int, .bl, rfl, by decide, .int i, rfl, _, rfl, iteD rfl ⟨_, rfl, _, rfl, rfl, ?_⟩⟩
    show Q (.bl (decide (V.int i = V.int i))) _
    rw [decide_eq_true rfl]
    exact q _ (Ex.new hp)
  | bl _ i =>
    cases hy
    refine ⟨_, rfl, (by show 2 ≤ sizeLine; decide), fun p hp => ⟨_, p, .bl, [.lst, .tup], rfl, upd_same, by decide, .bl i, _, rfl, iteF ?_⟩⟩
    refine ⟨_, rfl, _, .bl, .dct, rfl, by decide, .bl i, _, rfl, iteF ?_⟩
    refine ⟨_, rfl, _, .bl, .int, rfl, by decide, .bl i, _, rfl, iteT ?_⟩
    refine ⟨_, rfl, _, .bl, .int, rfl, by decide, .bl i, _, rfl, iteT ?_⟩
    refine ⟨_, rfl, _, .bl, .bl, rfl, by decide, .bl i, _, rfl, _, .bl, .bl, rfl, by decide, .bl i, rfl, _, rfl, iteD rfl ⟨_, rfl, _, rfl, rfl, ?_⟩⟩
    show Q (.bl (decide (V.bl i = V.bl i))) _
    rw [decide_eq_true rfl]
    exact q _ (Ex.new hp)
  | str _ i =>
    cases hy
    refine ⟨_, rfl, (by show 2 ≤ sizeLine; decide), fun p hp => ⟨_, p, .str, [.lst, .tup], rfl, upd_same, by decide, .str i, _, rfl, iteF ?_⟩⟩
    refine ⟨_, rfl, _, .str, .dct, rfl, by decide, .str i, _, rfl, iteF ?_⟩
    refine ⟨_, rfl, _, .str, .int, rfl, by decide, .str i, _, rfl, iteF ?_⟩
    refine ⟨_, rfl, (by show 4 ≤ sizeLine; decide), fun p2 hp2 => ⟨_, p2, .str, [.int, .lst, .tup, .dct], rfl, upd_same, by decide, .str i, _, rfl, _, rfl, iteT ⟨_, rfl, _, rfl, rfl, ?_⟩⟩⟩
    show Q (.bl (decide (V.str i = V.str i))) _
    rw [decide_eq_true rfl]
    exact q _ ((Ex.new hp).trans (Ex.new hp2))
  | non =>
    cases hy
    refine ⟨_, rfl, (by show 2 ≤ sizeLine; decide), fun p hp => ⟨_, p, .non, [.lst, .tup], rfl, upd_same, by decide, .non, _, rfl, iteF ?_⟩⟩
    refine ⟨_, rfl, _, .non, .dct, rfl, by decide, .non, _, rfl, iteF ?_⟩
    refine ⟨_, rfl, _, .non, .int, rfl, by decide, .non, _, rfl, iteF ?_⟩
    refine ⟨_, rfl, (by show 4 ≤ sizeLine; decide), fun p2 hp2 => ⟨_, p2, .non, [.int, .lst, .tup, .dct], rfl, upd_same, by decide, .non, _, rfl, _, rfl, iteT ⟨_, rfl, _, rfl, rfl, ?_⟩⟩⟩
    show Q (.bl (decide (V.non = V.non))) _
    rw [decide_eq_true rfl]
    exact q _ ((Ex.new hp).trans (Ex.new hp2))
  | @lst' n a vs ts h1 hl1 hn1 hp1 =>
    have hk : Knd H (.ref a) .lst := .lst h1
    cases hy with
    | @lst' _ b ws _ h2 hl2 hn2 hp2 =>
      have hk2 : Knd H (.ref b) .lst := .lst h2
      refine ⟨_, rfl, (by show 2 ≤ sizeLine; decide), fun p hp => ⟨_, p, .lst, [.lst, .tup], rfl, upd_same, by decide, hk2.mono (Ex.new hp), _, rfl, iteT ?_⟩⟩
      have e1 : Ex H (upd H p (.tup [.ty "list", .ty "tuple"])) := Ex.new hp
      generalize upd H p (.tup [.ty "list", .ty "tuple"]) = H1 at e1
      refine ⟨_, rfl, _, .lst, .lst, rfl, by decide, hk.mono e1, _, rfl, _, .lst, .lst, rfl, by decide, hk2.mono e1, rfl, _, rfl, iteND rfl ?_⟩
      refine ⟨_, rfl, _, .lst, .tup, rfl, by decide, hk.mono e1, _, rfl, _, .lst, .tup, rfl, by decide, hk2.mono e1, rfl, _, rfl, iteND rfl ?_⟩
      refine ⟨_, rfl, a, vs, rfl, Or.inl (SqL.of (e1 _ _ h1)), _, rfl, b, ws, rfl, Or.inl (SqL.of (e1 _ _ h2)), rfl, _, rfl, iteD (by rw [hn1, hn2]) ?_⟩
      refine ⟨_, rfl, _, rfl, a, b, vs, ws, rfl, Or.inl ⟨SqL.of (e1 _ _ h1), SqL.of (e1 _ _ h2), fun D hD => ?_⟩⟩
      refine same_zip (K := K) (J := Itz K a b) e1 (paired_all hn1 hp1) (paired_all hn2 hp2) hl1 hD (fun i H' e hi => ⟨vs, ws, vs[i], ws[i], SqL.of (e _ _ (e1 _ _ h1)), SqL.of (e _ _ (e1 _ _ h2)), List.getElem?_eq_getElem (by omega), List.getElem?_eq_getElem (by omega)⟩) (fun H' e => ⟨vs, ws, SqL.of (e _ _ (e1 _ _ h1)), SqL.of (e _ _ (e1 _ _ h2)), Or.inl (by omega)⟩) (fun i H' v H2 e hi hy => ?_) (fun H2 e2 hd2 => ?_)
      · obtain ⟨T', x, y, rfl, hT, rfl, hx', hy'⟩ := hy
        exact ⟨T', x, y, rfl, hT, rfl, hx' _ (SqL.of (e _ _ (e1 _ _ h1))), hy' _ (SqL.of (e _ _ (e1 _ _ h2)))⟩
      · refine ⟨D, _, rfl, SqL.of hd2, ?_⟩
        have et : (ts.map fun _ => true).all id = true := by rw [List.all_map]; exact List.all_eq_true.mpr fun _ _ => rfl
        rw [et]
        exact q _ (e1.trans e2)
  | @tup' n a vs ts h1 hl1 hn1 hp1 =>
    have hk : Knd H (.ref a) .tup := .tup h1
    cases hy with
    | @tup' _ b ws _ h2 hl2 hn2 hp2 =>
      have hk2 : Knd H (.ref b) .tup := .tup h2
      refine ⟨_, rfl, (by show 2 ≤ sizeLine; decide), fun p hp => ⟨_, p, .tup, [.lst, .tup], rfl, upd_same, by decide, hk2.mono (Ex.new hp), _, rfl, iteT ?_⟩⟩
      have e1 : Ex H (upd H p (.tup [.ty "list", .ty "tuple"])) := Ex.new hp
      generalize upd H p (.tup [.ty "list", .ty "tuple"]) = H1 at e1
      refine ⟨_, rfl, _, .tup, .lst, rfl, by decide, hk.mono e1, _, rfl, _, .tup, .lst, rfl, by decide, hk2.mono e1, rfl, _, rfl, iteND rfl ?_⟩
      refine ⟨_, rfl, _, .tup, .tup, rfl, by decide, hk.mono e1, _, rfl, _, .tup, .tup, rfl, by decide, hk2.mono e1, rfl, _, rfl, iteND rfl ?_⟩
      refine ⟨_, rfl, a, vs, rfl, Or.inr (SqT.of (e1 _ _ h1)), _, rfl, b, ws, rfl, Or.inr (SqT.of (e1 _ _ h2)), rfl, _, rfl, iteD (by rw [hn1, hn2]) ?_⟩
      refine ⟨_, rfl, _, rfl, a, b, vs, ws, rfl, Or.inr ⟨SqT.of (e1 _ _ h1), SqT.of (e1 _ _ h2), fun D hD => ?_⟩⟩
      refine same_zip (K := K) (J := RZ.ItzT K a b) e1 (paired_all hn1 hp1) (paired_all hn2 hp2) hl1 hD (fun i H' e hi => ⟨vs, ws, vs[i], ws[i], SqT.of (e _ _ (e1 _ _ h1)), SqT.of (e _ _ (e1 _ _ h2)), List.getElem?_eq_getElem (by omega), List.getElem?_eq_getElem (by omega)⟩) (fun H' e => ⟨vs, ws, SqT.of (e _ _ (e1 _ _ h1)), SqT.of (e _ _ (e1 _ _ h2)), Or.inl (by omega)⟩) (fun i H' v H2 e hi hy => ?_) (fun H2 e2 hd2 => ?_)
      · obtain ⟨T', x, y, rfl, hT, rfl, hx', hy'⟩ := hy
        exact ⟨T', x, y, rfl, hT, rfl, hx' _ (SqT.of (e _ _ (e1 _ _ h1))), hy' _ (SqT.of (e _ _ (e1 _ _ h2)))⟩
      · refine ⟨D, _, rfl, SqL.of hd2, ?_⟩
        have et : (ts.map fun _ => true).all id = true := by rw [List.all_map]; exact List.all_eq_true.mpr fun _ _ => rfl
        rw [et]
        exact q _ (e1.trans e2)
  | dK' => exact absurd ⟨_, rfl⟩ hd
  | dT' => exact absurd ⟨_, rfl⟩ hd
theorem has_law_same (T : Txt K mg) (d : Def K mg "_law_same" s_law_same) : ∀ n, Has P w K mg base CX0 "_law_same" ["_law_found", "_law_due"] (n + 2) (sp_same n)
  | 0 => has_law_same0 T d (has_no d fun F => F.binds fun _ _ _ _ _ _ us hl => match us, hl with | [_, _], _ => rfl)
  | n + 1 => has_law_same1 T d (has_law_same T d n)
end
end K73
set_option maxRecDepth 100000
set_option maxHeartbeats 4000000
namespace K73
open Enc (At enc)
open PySem L2 Evl
/-- a pair of a list of objections that stood in H, and a truth -/
def ZpR (H : Hp) : Rel (List Pr × Bool) := fun H2 t z => ∃ T' u, t = .ref T' ∧ H2 T' = some (.tup [u, .bl z.2]) ∧ At H u z.1
theorem zp_stays {H : Hp} : Stays (ZpR H) := ⟨fun _ _ _ _ e ⟨T', u, h1, h2, h3⟩ => ⟨T', u, h1, e _ _ h2, h3⟩⟩
section
variable {P : Program} {w : World} {K : PySem.W.Frag} {mg : Str → Option Value} {base : Heap} {C : Addr}
abbrev s_law_m_are_weights : Stmt := top 61
theorem sc_law_m_are_weights : FnScope ["_law_pairs", "_law_thing", "_law_pair"] ["_law_pairs", "_law_thing"] (defScope s_law_m_are_weights) := ⟨rfl, rfl, rfl, by decide +kernel, rfl, by decide +kernel, by decide +kernel⟩
/-- good weights are told from bad ones -/
def sp_law_m_are_weights : Sp := fun vs H Q _ => ∃ (a : Addr) (ps : List Pr) (v : V), vs = [.ref a, v] ∧ At H (.ref a) ps ∧ ps.length ≤ 1000 ∧ (((∃ wt, Wts H v ps wt) ∧ ∀ H', Ex H H' → Q (.bl true) H') ∨ (BadW H v ps ∧ ∀ H', Ex H H' → Q (.bl false) H'))
theorem all_of {ps : List Pr} {f : Pr → Bool} {b : Bool} (h : ps.all f = b) : (ps.map f).all id = b := by
  rw [List.all_map]
  exact h
theorem has_law_m_are_weights (T : Txt K mg) (d : Def K mg "_law_m_are_weights" s_law_m_are_weights) (d_law_m_is_weight : Has P w K mg base CX0 "_law_m_is_weight" ["_law_thing"] 1 sp_law_m_is_weight)  :
    Has P w K mg base CX0 "_law_m_are_weights" ["_law_pairs", "_law_thing"] 2 sp_law_m_are_weights := by
  obtain ⟨f, fd, F, m⟩ := d
  have sc := sc_law_m_are_weights
  refine ⟨f, fd, F.ok (k := 1) sc (fun vs H Q E h => (by first | (obtain ⟨h, _⟩ := h; rw [h]; rfl) | (obtain ⟨_, h, _⟩ := h; rw [h]; rfl) | (obtain ⟨_, _, h, _⟩ := h; rw [h]; rfl) | (obtain ⟨_, _, _, h, _⟩ := h; rw [h]; rfl) | (obtain ⟨_, _, _, _, h, _⟩ := h; rw [h]; rfl) | (obtain ⟨_, _, _, _, _, h, _⟩ := h; rw [h]; rfl) | (obtain ⟨_, _, _, _, _, _, h, _⟩ := h; rw [h]; rfl) | (obtain ⟨_, _, _, _, _, _, _, h, _⟩ := h; rw [h]; rfl) | (obtain ⟨_, _, _, _, _, _, _, _, h, _⟩ := h; rw [h]; rfl) | (obtain ⟨_, _, _, _, _, _, _, _, _, h, _⟩ := h; rw [h]; rfl) | (obtain ⟨_, _, _, _, _, _, _, _, _, _, h, _⟩ := h; rw [h]; rfl))) (fun cdv A outer s H vs Q E hr h => ?_), m, F.kp, F.binds fun _ _ _ _ _ _ us hl => match us, hl with | [_, _], _ => rfl⟩
  obtain ⟨a, ps, v, rfl, hat, hlp, q⟩ := h
  refine ⟨_, ((pss_cons (ps_if (PW.pt (pw_or (pt_not (pt_val (pe_callB call_is (by rfl) T.b_isinstance (by decide +kernel) (pa_cons (pv 1) (pa_cons (pe_bltn (v := .ty "dict") (by rfl) T.b_dict (by decide +kernel) rfl) pa_nil))))) (pw_or1 (pt_cmpR op_ne (pe_callB call_len_dct (by rfl) T.b_len (by decide +kernel) (pa_cons (pv 1) pa_nil)) (pe_callB (call_len_seqK K rfl) (by rfl) T.b_len (by decide +kernel) (pa_cons (pv 0) pa_nil)) (nomark _)))))
      (pss_one (ps_ret pe_bl))
      pss_nil)
    (pss_one (ps_ret (pe_callB (cr_allK K rfl rfl) (by rfl) T.b_all (by decide +kernel) (pa_cons (pe_lc (own := [("_law_pair", 2)]) rfl sc.nd (pi_listK K rfl (pv 0)) (blkOk_by (own := [("_law_pair", 2)]) (N := ["_law_pairs", "_law_thing", "_law_pair"]) (sc := defScope s_law_m_are_weights) (by decide +kernel)) (fun _ _ _ _ _ => (pg_name (i := 2) sc.nd rfl (by first | exact Or.inl rfl | exact Or.inr rfl))) (fun _ _ _ _ _ => pts_nil) (fun _ _ _ _ _ => (pe_and (pe_cmp (pc_dinX (hu_of hr) (pv 2) (pv 1)) (by rfl)) (pe_one (pe_has d_law_m_is_weight (hr.mono (by decide)) pass0 (by exact (pa_cons (pe_dget (hu_of hr) (pv 1) (pv 2) (fun _ _ => rfl)) pa_nil))))))) pa_nil)))))), ?_⟩
  obtain ⟨ws, ha, hW⟩ := Each.ofAt hat
  have wl := hW.length
  rcases q with ⟨⟨wt, b, kvs, rfl, hb, hl, hw⟩, q⟩ | ⟨bad, q⟩
  · refine ⟨_, rfl, _, .dct, .dct, rfl, by decide, .dT hb, _, rfl, iteF ⟨_, rfl, b, _, rfl, Or.inr ⟨kvs, hb, rfl⟩, _, rfl, a, ws, rfl, Or.inl (SqL.of ha), rfl, _, rfl, iteND (by rw [hl, wl]) ?_⟩⟩
    refine ⟨_, rfl, a, rfl, ⟨_, SqL.of ha⟩, fun Dd hD => lcL (R := fun _ v p => At H v p) (S := BlR) (f := fun p => some true) ⟨fun _ _ _ _ _ h => h⟩ bl_stays (fun _ e => SqL.of (e _ _ ha)) hW hD (by omega) (fun v p H2 e2 hv hp Kn Ky kn ky => ?_) (fun H2 md => ?_)⟩
    · obtain ⟨T', rfl, hT⟩ := pr_ref hv
      obtain ⟨hv1, h1⟩ := hw p hp
      have g := DGet.t (k := kP p) (e2 _ _ hb) (e2 _ _ hT)
      rw [hv1] at g
      refine ⟨rfl, _, rfl, _, rfl, Or.inl ⟨b, _, rfl, g, _, rfl, iteT ⟨_, rfl, _, rfl, b, _, rfl, g, _, .int, rfl, .int _, ?_⟩⟩⟩
      rw [show isWt (.int (wt p)) = true from decide_eq_true h1]
      exact ky _ _ _ (Ex.refl _) rfl fun _ _ _ => rfl
    · obtain ⟨_, ex, ws2, hD', hp'⟩ := md
      rw [bls_eq hp', fm_map] at hD'
      refine ⟨Dd, _, rfl, SqL.of hD', ?_⟩
      rw [all_of (b := true) (List.all_eq_true.mpr fun _ _ => rfl)]
      exact q _ ex
  · cases bad with
    | @kind k hk hd =>
      have hs : k.sub .dct = false := by cases k <;> first | rfl | exact absurd rfl hd
      refine ⟨_, rfl, v, k, .dct, rfl, by decide, hk, _, rfl, ?_⟩
      rw [hs]
      exact iteT (q _ (Ex.refl _))
    | @lenT b kvs e hb hl =>
      subst e
      exact ⟨_, rfl, _, .dct, .dct, rfl, by decide, .dT hb, _, rfl, iteF ⟨_, rfl, b, _, rfl, Or.inr ⟨kvs, hb, rfl⟩, _, rfl, a, ws, rfl, Or.inl (SqL.of ha), rfl, _, rfl, iteNDn (fun h => hl (by have := V.int.inj h; omega)) (q _ (Ex.refl _))⟩⟩
    | @lenK b kvs e hb hl =>
      subst e
      exact ⟨_, rfl, _, .dct, .dct, rfl, by decide, .dK hb, _, rfl, iteF ⟨_, rfl, b, _, rfl, Or.inl ⟨kvs, hb, rfl⟩, _, rfl, a, ws, rfl, Or.inl (SqL.of ha), rfl, _, rfl, iteNDn (fun h => hl (by have := V.int.inj h; omega)) (q _ (Ex.refl _))⟩⟩
    | @inT b kvs e hb hl hk hbad =>
      subst e
      refine ⟨_, rfl, _, .dct, .dct, rfl, by decide, .dT hb, _, rfl, iteF ⟨_, rfl, b, _, rfl, Or.inr ⟨kvs, hb, rfl⟩, _, rfl, a, ws, rfl, Or.inl (SqL.of ha), rfl, _, rfl, iteND (by rw [hl, wl]) ?_⟩⟩
      refine ⟨_, rfl, a, rfl, ⟨_, SqL.of ha⟩, fun Dd hD => lcL (R := fun _ v p => At H v p) (S := BlR) (f := fun p => some (match valV kvs (kP p) with | some u => isWt u | none => false)) ⟨fun _ _ _ _ _ h => h⟩ bl_stays (fun _ e => SqL.of (e _ _ ha)) hW hD (by omega) (fun v p H2 e2 hv hp Kn Ky kn ky => ?_) (fun H2 md => ?_)⟩
      · obtain ⟨T', rfl, hT⟩ := pr_ref hv
        have g := DGet.t (k := kP p) (e2 _ _ hb) (e2 _ _ hT)
        cases hv1 : valV kvs (kP p) with
        | none =>
          rw [hv1] at g
          exact ⟨rfl, _, rfl, _, rfl, Or.inl ⟨b, _, rfl, g, _, rfl, iteF (ky _ _ _ (Ex.refl _) (by rw [hv1]) fun _ _ _ => rfl)⟩⟩
        | some u =>
          rw [hv1] at g
          obtain ⟨k, hku⟩ := hk p hp u hv1
          exact ⟨rfl, _, rfl, _, rfl, Or.inl ⟨b, _, rfl, g, _, rfl, iteT ⟨_, rfl, _, rfl, b, _, rfl, g, _, k, rfl, hku.mono e2, ky _ _ _ (Ex.refl _) (by rw [hv1]) fun _ _ _ => rfl⟩⟩⟩
      · obtain ⟨_, ex, ws2, hD', hp'⟩ := md
        rw [bls_eq hp', fm_map] at hD'
        refine ⟨Dd, _, rfl, SqL.of hD', ?_⟩
        rw [all_of (b := false)]
        · exact q _ ex
        · obtain ⟨p, hp, hb⟩ := hbad
          rw [List.all_eq_false]
          refine ⟨p, hp, ?_⟩
          cases hv1 : valV kvs (kP p) with
          | none => simp
          | some u => simp [hb u hv1]
    | @inK b kvs e hb hl hne =>
      subst e
      refine ⟨_, rfl, _, .dct, .dct, rfl, by decide, .dK hb, _, rfl, iteF ⟨_, rfl, b, _, rfl, Or.inl ⟨kvs, hb, rfl⟩, _, rfl, a, ws, rfl, Or.inl (SqL.of ha), rfl, _, rfl, iteND (by rw [hl, wl]) ?_⟩⟩
      refine ⟨_, rfl, a, rfl, ⟨_, SqL.of ha⟩, fun Dd hD => lcL (R := fun _ v p => At H v p) (S := BlR) (f := fun p => some false) ⟨fun _ _ _ _ _ h => h⟩ bl_stays (fun _ e => SqL.of (e _ _ ha)) hW hD (by omega) (fun v p H2 e2 hv hp Kn Ky kn ky => ?_) (fun H2 md => ?_)⟩
      · obtain ⟨T', rfl, hT⟩ := pr_ref hv
        exact ⟨rfl, _, rfl, _, rfl, Or.inr ⟨b, T', kvs, kP p, rfl, rfl, e2 _ _ hb, e2 _ _ hT, _, rfl, iteF (ky _ _ _ (Ex.refl _) rfl fun _ _ _ => rfl)⟩⟩
      · obtain ⟨_, ex, ws2, hD', hp'⟩ := md
        rw [bls_eq hp', fm_map] at hD'
        refine ⟨Dd, _, rfl, SqL.of hD', ?_⟩
        rw [all_of (b := false)]
        · exact q _ ex
        · obtain ⟨p, ps', rfl⟩ := List.exists_cons_of_ne_nil hne
          rfl
abbrev s_law_first_list : Stmt := top 79
theorem sc_law_first_list : FnScope ["_law_weights", "_law_lists", "_law_met_here", "_law_some", "_law_gone", "_law_one"] ["_law_weights", "_law_lists", "_law_met_here"] (defScope s_law_first_list) := ⟨rfl, rfl, rfl, by decide +kernel, rfl, by decide +kernel, by decide +kernel⟩
def sp_law_first_list : Sp := fun vs H Q _ => ∃ (v : V) (la ma : Addr) (ps : List Pr) (wt : Pr → Int) (lists : List (List Pr)) (bs : List Bool), vs = [v, .ref la, .ref ma] ∧ Wts H v ps wt ∧ At H (.ref la) lists ∧ (∀ l ∈ lists, l.Sublist ps) ∧ lists.length ≤ 4096 ∧ ps.length ≤ 1000 ∧ H ma = some (.lst (bs.map V.bl)) ∧ bs.length = lists.length ∧
  ∀ u H', Ex H H' → FL H' u (firstL wt lists bs) → Q u H'
theorem has_law_first_list (T : Txt K mg) (d : Def K mg "_law_first_list" s_law_first_list) (d_law_m_sum : Has P w K mg base CX0 "_law_m_sum" ["_law_weights", "_law_pairs"] 1 sp_law_m_sum)  :
    Has P w K mg base CX0 "_law_first_list" ["_law_weights", "_law_lists", "_law_met_here"] 2 sp_law_first_list := by
  obtain ⟨f, fd, F, m⟩ := d
  have sc := sc_law_first_list
  refine ⟨f, fd, F.ok (k := 1) sc (fun vs H Q E h => (by first | (obtain ⟨h, _⟩ := h; rw [h]; rfl) | (obtain ⟨_, h, _⟩ := h; rw [h]; rfl) | (obtain ⟨_, _, h, _⟩ := h; rw [h]; rfl) | (obtain ⟨_, _, _, h, _⟩ := h; rw [h]; rfl) | (obtain ⟨_, _, _, _, h, _⟩ := h; rw [h]; rfl) | (obtain ⟨_, _, _, _, _, h, _⟩ := h; rw [h]; rfl) | (obtain ⟨_, _, _, _, _, _, h, _⟩ := h; rw [h]; rfl) | (obtain ⟨_, _, _, _, _, _, _, h, _⟩ := h; rw [h]; rfl) | (obtain ⟨_, _, _, _, _, _, _, _, h, _⟩ := h; rw [h]; rfl) | (obtain ⟨_, _, _, _, _, _, _, _, _, h, _⟩ := h; rw [h]; rfl) | (obtain ⟨_, _, _, _, _, _, _, _, _, _, h, _⟩ := h; rw [h]; rfl))) (fun cdv A outer s H vs Q E hr h => ?_), m, F.kp, F.binds fun _ _ _ _ _ _ us hl => match us, hl with | [_, _, _], _ => rfl⟩
  obtain ⟨v, la, ma, ps, wt, lists, bs, rfl, ⟨wb, kvs, rfl, hwb, hwl, hwt⟩, hla, hsub, hll, hlp, hma, hbl, q⟩ := h
  refine ⟨_, ((pss_cons (ps_setLc (i := 3) (own := [("_law_gone", 4), ("_law_one", 5)]) rfl sc.nd rfl rfl (sw_true rfl rfl rfl (by decide +kernel)) (pi_zipK K rfl (by rfl) T.b_zip (pa_cons (pv 1) (pa_cons (pv 2) pa_nil))) (blkOk_by (own := [("_law_gone", 4), ("_law_one", 5)]) (N := ["_law_weights", "_law_lists", "_law_met_here", "_law_some", "_law_gone", "_law_one"]) (sc := defScope s_law_first_list) (by decide +kernel)) (fun _ _ _ _ _ => (pg_tupK (n := 2) K rfl rfl (pgs_cons (pg_name (i := 4) sc.nd rfl (by first | exact Or.inl rfl | exact Or.inr rfl)) (pgs_cons (pg_name (i := 5) sc.nd rfl (by first | exact Or.inl rfl | exact Or.inr rfl)) pgs_nil)))) (fun _ _ _ _ _ => (pts_one (pt_val (pv 5)))) (fun _ _ _ _ _ => (pe_tup (pa_cons (pe_has d_law_m_sum (hr.mono (by decide)) pass0 (by exact (pa_cons (pv 0) (pa_cons (pv 4) pa_nil)))) (pa_cons (pv 4) pa_nil)))))
    (pss_one (ps_ret (pe_ifExp (pt_cmpR (op_neA (α := List (((Int) × (List (((Str) × (Str))))))) (by decide) (hu64 hr)) (pv 3) (pe_lst pa_nil) (nomark _)) (pe_callB (cr_min (α := ((Int) × (List (((Str) × (Str)))))) rfl (by decide) (by intro x; exact fun h => nomatch h) (hu64 hr)) (by rfl) T.b_min (by decide +kernel) (pa_cons (pv 3) pa_nil)) pe_non))))), ?_⟩
  obtain ⟨lvs, hl, hL⟩ := Each.ofAt hla
  have ll := hL.length
  refine ⟨_, rfl, _, rfl, la, ma, lvs, bs.map V.bl, rfl, Or.inl ⟨SqL.of hl, SqL.of hma, fun Dd hD => ?_⟩⟩
  have zl : (lists.zip bs).length = lists.length := by rw [List.length_zip]; omega
  refine lcG (R := ZpR H) (S := (At : Rel (Int × List Pr))) (xs := lists.zip bs) (f := fun z => if z.2 = true then some (goneW wt z.1, z.1) else none) zp_stays at_stays hD (by omega)
    (fun i H' e hi => ⟨lvs, bs.map V.bl, lvs[i]'(by omega), V.bl (bs[i]'(by omega)), SqL.of (e _ _ hl), SqL.of (e _ _ hma), List.getElem?_eq_getElem (by omega), by rw [List.getElem?_map, List.getElem?_eq_getElem (by omega)]; rfl⟩) (fun H' e => ⟨lvs, bs.map V.bl, SqL.of (e _ _ hl), SqL.of (e _ _ hma), Or.inl (by omega)⟩) (fun i H' t H2 e hi hy => ?_) (fun t z H2 e2 ht hz Kn Ky kn ky => ?_) (fun H2 md => ?_)
  · obtain ⟨T', x, y, rfl, hT, rfl, hx, hy⟩ := hy
    have hx' := hx _ (SqL.of (e _ _ hl))
    have hy' := hy _ (SqL.of (e _ _ hma))
    obtain ⟨l, hl', hat⟩ := Paired.get hL hx'
    obtain ⟨b, hb', rfl⟩ := map_get hy'
    exact ⟨Ex.new hT, (l, b), by rw [List.getElem?_zip_eq_some]; exact ⟨hl', hb'⟩, T', x, rfl, upd_same, hat⟩
  · obtain ⟨T', u, rfl, hT, hat⟩ := ht
    obtain ⟨l, b⟩ := z
    have lsub := hsub l (List.of_mem_zip hz).1
    refine ⟨T', _, rfl, SqT.of hT, rfl, _, _, rfl, _, _, rfl, ⟨rfl, rfl, _, rfl, _, rfl, ?_⟩⟩
    cases b with
    | false => exact iteF (kn _ (Ex.refl _) rfl)
    | true =>
      obtain ⟨lx, lv, rfl, h3, h4⟩ := id hat
      refine iteT ⟨_, rfl, _, rfl, wb, lx, kvs, l, wt, rfl, e2 _ _ hwb, fun p hp => (hwt p (lsub.subset hp)).1, Enc.mono e2 hat, Nat.le_trans lsub.length_le hlp, fun H3 e3 => ⟨_, rfl, (by show 2 ≤ sizeLine; decide), fun t2 ht2 => ?_⟩⟩
      exact ky _ (goneW wt l, l) _ (e3.trans (Ex.new ht2)) rfl fun G eG gG => at_pair (gG t2 _ (fresh_back e3 ht2) upd_same) (at_int _) (Enc.mono eG hat)
  · obtain ⟨hn, ex, ws2, hD', hw2⟩ := md
    have hA : At H2 (.ref Dd) ((lists.zip bs).filterMap fun z => if z.2 = true then some (goneW wt z.1, z.1) else none) := at_list hD' (Each.mono del_sub hw2)
    refine ⟨_, rfl, (by show 0 ≤ _; exact Nat.zero_le _), fun p hp => ⟨_, [], Enc.mono (Ex.new hp) hA, at_list upd_same .nil, _, rfl, ?_⟩⟩
    have eP := ex.trans (Ex.new (o := .lst []) hp)
    have hA' := Enc.mono (Ex.new (o := .lst []) hp) hA
    cases hf : ((lists.zip bs).filterMap fun z => if z.2 = true then some (goneW wt z.1, z.1) else none) with
    | nil =>
      refine iteND rfl (q _ _ eP ?_)
      unfold firstL
      rw [hf]
      rfl
    | cons z zs =>
      rw [hf] at hA'
      refine iteNDn (by simp) ⟨_, rfl, _, z, zs, rfl, hA', fun u hu => q _ _ eP ?_⟩
      unfold firstL
      rw [hf]
      exact hu
end
end K73
set_option maxRecDepth 100000
set_option maxHeartbeats 4000000
namespace K73
open Enc (At enc)
open PySem L2 Evl
theorem leastOf_snoc {α : Type} [Enc α] (l : List α) (z : α) : leastOf (l ++ [z]) = match leastOf l with | none => some z | some m => some (if ltA z m = true then z else m) := by
  cases l with
  | nil => rfl
  | cons x xs =>
    show some (minA x (xs ++ [z])) = some _
    unfold minA
    rw [List.foldl_append]
    rfl
theorem leastOf_mem {α : Type} [Enc α] {l : List α} {m : α} (h : leastOf l = some m) : m ∈ l := by
  cases l with
  | nil => cases h
  | cons x xs =>
    have e : minA x xs = m := Option.some.inj h
    rw [← e]
    exact minA_mem xs x
theorem ltA_pair (w w' : Int) (l g : List Pr) (h : ltA l g = false) : ltA (w', l) (w, g) = decide (w' < w) := by
  have e := PySem.W.dataLt_pair (x := PyData.int w') (y := enc l) (x' := PyData.int w) (y' := enc g) (Enc.alike w' w) (Enc.alike l g)
  have e2 : ltA (w', l) (w, g) = PySem.W.dataLt (.tuple [PyData.int w', enc l]) (.tuple [PyData.int w, enc g]) := rfl
  have h' : PySem.W.dataLt (enc l) (enc g) = false := h
  rw [e2, e, h', PySem.W.dataLt_int]
  have e3 : PyData.eqv (PyData.int w') (PyData.int w) = decide (w' = w) := eqv_enc w' w
  rw [e3]
  by_cases hw : w' = w
  · subst hw
    simp
  · simp [hw]
def fmz (wt : Pr → Int) (z : List Pr × Bool) : Option (Int × List Pr) := if z.2 = true then some (goneW wt z.1, z.1) else none
theorem firstL_snoc (wt : Pr → Int) (ls : List (List Pr)) (ok : List Pr → Bool) (l : List Pr) : firstL wt (ls ++ [l]) ((ls ++ [l]).map ok) = if ok l = true then (match firstL wt ls (ls.map ok) with | none => some (goneW wt l, l) | some m => some (if ltA (goneW wt l, l) m = true then (goneW wt l, l) else m)) else firstL wt ls (ls.map ok) := by
  unfold firstL
  rw [List.map_append, List.zip_append (by simp), List.filterMap_append]
  cases h : ok l with
  | true =>
    have e : List.filterMap (fun z : List Pr × Bool => if z.2 = true then some (goneW wt z.1, z.1) else none) ([l].zip ([l].map ok)) = [(goneW wt l, l)] := by simp [h]
    rw [e, leastOf_snoc]
    simp only [if_true]
    generalize leastOf (List.filterMap (fun z : List Pr × Bool => if z.2 = true then some (goneW wt z.1, z.1) else none) (ls.zip (List.map ok ls))) = r
    cases r <;> rfl
  | false =>
    have e : List.filterMap (fun z : List Pr × Bool => if z.2 = true then some (goneW wt z.1, z.1) else none) ([l].zip ([l].map ok)) = [] := by simp [h]
    rw [e, List.append_nil]
    simp
/-- the search's fold over sorted lists finds the least pair -/
theorem cheap_first (wt : Pr → Int) (ok : List Pr → Bool) : ∀ ls : List (List Pr), (ls.Pairwise fun a b => ltA b a = false) → cheapF wt ok ls = firstL wt ls (ls.map ok) := by
  intro ls
  induction ls using snoc_ind with
  | h0 => intro _; rfl
  | hs ls l ih =>
    intro hp
    obtain ⟨h1, h2, h3⟩ := List.pairwise_append.mp hp
    have ih' := ih h1
    rw [cheapF_snoc, firstL_snoc, ih']
    cases hf : firstL wt ls (ls.map ok) with
    | none =>
      show (if ok l = true then some (goneW wt l, l) else none) = _
      cases ok l <;> rfl
    | some m =>
      obtain ⟨w0, g0⟩ := m
      have hm := leastOf_mem hf
      obtain ⟨⟨g1, b1⟩, hz, he⟩ := List.mem_filterMap.mp hm
      have hg : g0 ∈ ls := by
        dsimp only at he
        split at he
        · have e2 := (Prod.mk.inj (Option.some.inj he)).2
          rw [← e2]
          exact (List.of_mem_zip hz).1
        · cases he
      have hlt := h3 g0 hg l (List.mem_singleton.mpr rfl)
      show (if goneW wt l < w0 then (if ok l = true then some (goneW wt l, l) else some (w0, g0)) else some (w0, g0)) = if ok l = true then some (if ltA (goneW wt l, l) (w0, g0) = true then (goneW wt l, l) else (w0, g0)) else some (w0, g0)
      rw [ltA_pair _ _ _ _ hlt]
      by_cases hw : goneW wt l < w0
      · rw [if_pos hw, if_pos (decide_eq_true hw)]
      · rw [if_neg hw]
        cases ok l with
        | false => rfl
        | true => simp [hw]
/-- none is found just where no list does -/
theorem firstL_none {wt : Pr → Int} {ok : List Pr → Bool} {ls : List (List Pr)} : firstL wt ls (ls.map ok) = none ↔ ∀ l ∈ ls, ok l = false := by
  induction ls using snoc_ind with
  | h0 => exact ⟨(fun _ l hl => by cases hl), fun _ => rfl⟩
  | hs ls l ih =>
    rw [firstL_snoc]
    constructor
    · intro h x hx
      cases hk : ok l with
      | true =>
        rw [if_pos hk] at h
        split at h <;> cases h
      | false =>
        rw [if_neg (by rw [hk]; simp)] at h
        rcases List.mem_append.mp hx with g | g
        · exact ih.mp h x g
        · rw [List.mem_singleton.mp g]; exact hk
    · intro h
      rw [if_neg (by rw [h l (by simp)]; simp)]
      exact ih.mpr fun x hx => h x (List.mem_append_left _ hx)
theorem firstL_some {wt : Pr → Int} {ok : List Pr → Bool} {ls : List (List Pr)} {r : Int × List Pr} (h : firstL wt ls (ls.map ok) = some r) : r.2 ∈ ls ∧ ok r.2 = true ∧ r.1 = goneW wt r.2 := by
  have hm := leastOf_mem h
  obtain ⟨⟨g1, b1⟩, hz, he⟩ := List.mem_filterMap.mp hm
  dsimp only at he
  split at he
  · rename_i hb
    have e2 := Option.some.inj he
    have hz1 := (List.of_mem_zip hz).1
    have hb1 : b1 = ok g1 := by
      obtain ⟨i, hi⟩ := List.mem_iff_getElem?.mp hz
      rw [List.getElem?_zip_eq_some] at hi
      obtain ⟨q1, q2⟩ := hi
      rw [List.getElem?_map] at q2
      have q1' : ls[i]? = some g1 := q1
      rw [q1'] at q2
      exact (Option.some.inj q2).symm
    rw [← e2]
    exact ⟨hz1, by rw [← hb1]; exact hb, rfl⟩
  · cases he
end K73
set_option maxRecDepth 100000
set_option maxHeartbeats 4000000
namespace K73
open Enc (At enc)
open PySem L2 Evl
def left (ps gone : List Pr) : List Pr := ps.filter fun p => !decide (p ∈ gone)
theorem mem_left {ps gone : List Pr} {p : Pr} : p ∈ left ps gone ↔ p ∈ ps ∧ p ∉ gone := by
  unfold left
  rw [List.mem_filter]
  simp
theorem sum_perm (wt : Pr → Int) {l m : List Pr} (h : l.Perm m) : (l.map wt).sum = (m.map wt).sum := by
  induction h with
  | nil => rfl
  | cons a _ ih => rw [List.map_cons, List.map_cons, List.sum_cons, List.sum_cons, ih]
  | swap a b l => simp only [List.map_cons, List.sum_cons]; omega
  | trans _ _ ih1 ih2 => rw [ih1, ih2]
theorem sum_nonneg (wt : Pr → Int) : ∀ l : List Pr, (∀ p ∈ l, 0 ≤ wt p) → 0 ≤ (l.map wt).sum
  | [], _ => Int.le_refl _
  | a :: l, h => by
    rw [List.map_cons, List.sum_cons]
    have h1 := h a List.mem_cons_self
    have h2 := sum_nonneg wt l fun p hp => h p (List.mem_cons_of_mem _ hp)
    omega
theorem sum_sub (wt : Pr → Int) : ∀ (l m : List Pr), l.Nodup → (∀ p ∈ l, p ∈ m) → (∀ p ∈ m, 0 ≤ wt p) → (l.map wt).sum ≤ (m.map wt).sum
  | [], m, _, _, h => sum_nonneg wt m h
  | a :: l, m, hn, hs, h => by
    obtain ⟨h1, h2⟩ := List.nodup_cons.mp hn
    have ha := hs a List.mem_cons_self
    have hp := List.perm_cons_erase ha
    rw [sum_perm wt hp, List.map_cons, List.map_cons, List.sum_cons, List.sum_cons]
    have ih := sum_sub wt l (m.erase a) h2 (fun p hp' => by
      have hne : p ≠ a := fun e => h1 (e ▸ hp')
      rcases List.mem_cons.mp (hp.mem_iff.mp (hs p (List.mem_cons_of_mem _ hp'))) with e | e
      · exact absurd e hne
      · exact e) fun p hp' => h p (List.mem_of_mem_erase hp')
    omega
section
variable {ns : List Str} {ps pairs : List Pr} {x : Str} {wt : Pr → Int}
/-- whoever overhears nothing but what is gone is held -/
theorem over_gone (hp : ∀ p, p ∈ ps ↔ p ∈ pairs) {gone : List Pr} : ∀ p ∈ overH ps (leastL ns (left pairs gone)), p ∈ gone := by
  intro p hpo
  obtain ⟨h1, h2⟩ := List.mem_filter.mp hpo
  obtain ⟨h3, h4⟩ := List.mem_filter.mp h1
  have hb : p.2 ∈ leastL ns (left pairs gone) := of_decide_eq_true h4
  by_cases hg : p ∈ gone
  · exact hg
  · exfalso
    have hR : (p.1, p.2) ∈ left pairs gone := mem_left.mpr ⟨(hp p).mp h3, hg⟩
    have hb' := hb
    rw [← leastL_fix] at hb'
    obtain ⟨y, hy, hya⟩ := (mem_answL.mp hb').2 p.1 hR
    have hit : hitB ps (leastL ns (left pairs gone)) p.1 = true := hitB_iff.mpr ⟨y, hy, (hp _).mpr (mem_left.mp hya).1⟩
    rw [hit] at h2
    have ha : p.1 ∈ leastL ns (left pairs gone) := by simpa using h2
    exact leastL_calm p.1 ha y hy hya
theorem least_in_allP (R : List Pr) : leastL ns R ∈ allP ns := by
  have h := allP_filter (fun x => ansB R (leastL ns R) x) ns
  have e : ns.filter (fun x => ansB R (leastL ns R) x) = leastL ns R := leastL_fix
  rwa [e] at h
/-- the weight gone is no less than the least budget -/
theorem budget_le (hp : ∀ p, p ∈ ps ↔ p ∈ pairs) (hn : ps.Nodup) (hw : ∀ p ∈ ps, 1 ≤ wt p) {gone : List Pr} (hg : ∀ p ∈ gone, p ∈ ps) (hx : x ∈ leastL ns (left pairs gone)) {i : Int} (hi : ∀ z ∈ pricesF wt ns ps, x ∈ z.2 → i ≤ z.1) : i ≤ goneW wt gone := by
  have h1 := hi (goneW wt (overH ps (leastL ns (left pairs gone))), leastL ns (left pairs gone)) (List.mem_map.mpr ⟨_, srt_mem.mpr (least_in_allP _), rfl⟩) hx
  refine Int.le_trans h1 (sum_sub wt _ _ ?_ (over_gone hp) fun p hp' => ?_)
  · exact (hn.filter _).filter _
  · have := hw p (hg p hp')
    omega
theorem least_free (hx : x ∈ ns) {R : List Pr} (h : ∀ o, (o, x) ∉ R) : x ∈ leastL ns R := by
  have h1 : x ∈ iterL ns R 1 := mem_answL.mpr ⟨hx, fun o ho => absurd ho (h o)⟩
  exact iterL_least 1 x h1
theorem not_least_one {o : Str} {R : List Pr} (h : ∀ p, p ∈ R ↔ p = (o, x)) : x ∉ leastL ns R := by
  intro hx
  have hall : ∀ k, x ∉ iterL ns R k := by
    intro k
    induction k with
    | zero => intro h; cases h
    | succ k ih =>
      intro hk
      obtain ⟨y, hy, hyo⟩ := (mem_answL.mp hk).2 o ((h _).mpr rfl)
      have e := (h _).mp hyo
      have e1 := (Prod.mk.inj e).1
      have e2 := (Prod.mk.inj e).2
      -- (y, o) = (o, x): y = o, o = x
      rw [e1, e2] at hy
      exact ih hy
  exact hall _ hx
/-- what is found by removing: something for the way in, and for the way out just where there are objectors -/
theorem rise_found (hp : ∀ p, p ∈ ps ↔ p ∈ pairs) (hx : x ∈ ns) : firstL wt (srt (allP ps)) ((srt (allP ps)).map fun g => decide (x ∈ leastL ns (left pairs g))) ≠ none := by
  intro h
  have h1 := firstL_none.mp h ps (srt_mem.mpr (by have := allP_filter (fun _ => true) ps; rwa [List.filter_eq_self.mpr fun _ _ => rfl] at this))
  have h2 : x ∈ leastL ns (left pairs ps) := least_free hx fun o ho => (mem_left.mp ho).2 ((hp _).mpr (mem_left.mp ho).1)
  rw [decide_eq_true h2] at h1
  cases h1
theorem fall_found (hp : ∀ p, p ∈ ps ↔ p ∈ pairs) (hx : x ∈ ns) : firstL wt (srt (allP ps)) ((srt (allP ps)).map fun g => !decide (x ∈ leastL ns (left pairs g))) = none ↔ objectors pairs x = [] := by
  rw [firstL_none]
  constructor
  · intro h
    cases ho : objectors pairs x with
    | nil => rfl
    | cons o os =>
      exfalso
      have hox : (o, x) ∈ pairs := mem_objectors.mp (by rw [ho]; exact List.mem_cons_self)
      have h1 := h (ps.filter fun p => !decide (p = (o, x))) (srt_mem.mpr (allP_filter _ ps))
      have h2 : x ∉ leastL ns (left pairs (ps.filter fun p => !decide (p = (o, x)))) := not_least_one (o := o) fun p => by
        rw [mem_left, List.mem_filter]
        constructor
        · rintro ⟨a, b⟩
          by_cases e : p = (o, x)
          · exact e
          · exact absurd ⟨(hp _).mpr a, by simpa using e⟩ b
        · rintro rfl
          exact ⟨hox, fun c => by simp at c⟩
      rw [decide_eq_false h2] at h1
      cases h1
  · intro h g _
    have h2 : x ∈ leastL ns (left pairs g) := least_free hx fun o ho => by
      have := mem_objectors.mpr (mem_left.mp ho).1
      rw [h] at this
      cases this
    rw [decide_eq_true h2]
    rfl
/-- a fresh statement that answers for x -/
theorem answer_in {y : Str} (hx : x ∈ ns) (hy : y ∉ ns) (hm : ∀ p ∈ ps, p.1 ∈ ns ∧ p.2 ∈ ns) (hs : (x, x) ∉ ps) : x ∈ leastL (srt (ns ++ [y])) (srt (ps ++ ansP ps x y)) := by
  have hy1 : y ∈ iterL (srt (ns ++ [y])) (srt (ps ++ ansP ps x y)) 1 := mem_answL.mpr ⟨srt_mem.mpr (List.mem_append_right _ (List.mem_singleton.mpr rfl)), fun o ho => by
    exfalso
    rcases List.mem_append.mp (srt_mem.mp ho) with h | h
    · exact hy (hm _ h).2
    · exact hy (hm _ (ansP_mem h).2.1).1⟩
  have hx2 : x ∈ iterL (srt (ns ++ [y])) (srt (ps ++ ansP ps x y)) 2 := mem_answL.mpr ⟨srt_mem.mpr (List.mem_append_left _ hx), fun o ho => by
    rcases List.mem_append.mp (srt_mem.mp ho) with h | h
    · have hne : o ≠ x := fun e => hs (by rw [e] at h; exact h)
      exact ⟨y, hy1, srt_mem.mpr (List.mem_append_right _ (ansP_in h hne))⟩
    · exact absurd rfl (ansP_mem h).2.2⟩
  exact iterL_least 2 x hx2
theorem answer_out {y : Str} (hs : (x, x) ∈ ps) : ((heldF (srt (ns ++ [y])) (srt (ps ++ ansP ps x y))).any fun l => decide (x ∈ l)) = false := by
  rw [List.any_eq_false]
  intro l hl hxl
  have hxl' : x ∈ l := of_decide_eq_true hxl
  have h1 := (List.mem_filter.mp (srt_mem.mp hl)).1
  obtain ⟨l', h2⟩ := growF_kept _ _ l h1 x hxl'
  unfold calmB at h2
  rw [Bool.and_eq_true] at h2
  have h3 : x ∉ objectors (srt (ps ++ ansP ps x y)) x := by simpa using h2.1
  exact h3 (mem_objectors.mpr (srt_mem.mpr (List.mem_append_left _ hs)))
end
end K73
set_option maxRecDepth 100000
set_option maxHeartbeats 4000000
namespace K73
open Enc (At enc)
open PySem L2 Evl
def prTr (p : Pr) : Tr := .tup [.str p.1, .str p.2]
theorem pr_tr {H : Hp} {v : V} {p : Pr} (n : Nat) (h : At H v p) : TrAt H (n + 1) v (prTr p) := by
  obtain ⟨a, rfl, ha⟩ := pr_ref h
  exact .tup ha (by show 2 ≤ 10000; omega) (.cons (.str n _) (.cons (.str n _) .nil))
theorem prs_tr {H : Hp} (n : Nat) : ∀ {vs : List V} {ps : List Pr}, Each H vs ps → Paired (TrAt H (n + 1)) vs (ps.map prTr)
  | _, _, .nil => .nil
  | _, _, .cons h t => .cons (pr_tr n h) (prs_tr n t)
theorem strs_tr {H : Hp} (n : Nat) : ∀ xs : List Str, Paired (TrAt H n) (xs.map V.str) (xs.map Tr.str)
  | [] => .nil
  | x :: xs => .cons (.str n x) (strs_tr n xs)
def foundTr : Option (Int × List Pr) → Tr
  | none => .non
  | some (i, g) => .tup [.int i, .lst (g.map prTr)]
theorem found_tr {H : Hp} {t l : Addr} {vs : List V} {i : Int} {g : List Pr} (ht : H t = some (.tup [.int i, .ref l])) (hl : H l = some (.lst vs)) (he : Each H vs g) (hz : g.length ≤ 1000) : TrAt H 3 (.ref t) (foundTr (some (i, g))) :=
  .tup ht (by show 2 ≤ 10000; omega) (.cons (.int 2 i) (.cons (.lst hl (by have := he.length; omega) (prs_tr 0 he)) .nil))
theorem Told.tr {H H' : Hp} {v : V} {r : Option (Int × List Pr)} (h : Told H H' v r) (hz : ∀ i g, r = some (i, g) → g.length ≤ 1000) : TrAt H' 3 v (foundTr r) := by
  cases r with
  | none =>
    have e : v = .non := h
    rw [e]
    exact .non 3
  | some p =>
    obtain ⟨i, g⟩ := p
    obtain ⟨t, l, vs, rfl, h2, h3, h4, _⟩ := h
    exact found_tr h2 h3 h4 (hz i g rfl)
theorem FL.tr {H : Hp} {v : V} {r : Option (Int × List Pr)} (h : FL H v r) (hz : ∀ i g, r = some (i, g) → g.length ≤ 1000) : TrAt H 3 v (foundTr r) := by
  cases r with
  | none =>
    have e : v = .non := h
    rw [e]
    exact .non 3
  | some p =>
    obtain ⟨i, g⟩ := p
    obtain ⟨t, a, b, rfl, h2, h3, h4⟩ := h
    have h3' : a = .int i := h3
    subst h3'
    obtain ⟨l, vs, rfl, h5, h6⟩ := h4
    exact found_tr h2 h5 h6 (hz i g rfl)
theorem Told.row {H H' : Hp} {v : V} {r : Option (Int × List Pr)} {al : Addr} {ys zs : List V} (h : Told H H' v r) (h0 : ∃ o, H al = some o) (h1 : H' al = some (.lst ys)) : Told H (upd H' al (.lst zs)) v r := by
  cases r with
  | none => exact h
  | some p =>
    obtain ⟨i, g⟩ := p
    obtain ⟨t, l, vs, rfl, h2, h3, h4, h5⟩ := h
    obtain ⟨o, h0⟩ := h0
    have n1 : t ≠ al := fun e => by rw [e, h1] at h2; cases h2
    have n2 : l ≠ al := fun e => by rw [e, h0] at h5; cases h5
    exact ⟨t, l, vs, rfl, by rw [upd_ne n1]; exact h2, by rw [upd_ne n2]; exact h3, Each.row h1 (fun _ h => by cases h) h4, h5⟩
section
variable {P : Program} {w : World} {K : PySem.W.Frag} {mg : Str → Option Value} {base : Heap} {C C_NoStatement C_BadWeights C_BadName : Addr}
abbrev s_law_name_right : Stmt := top 80
theorem sc_law_name_right : FnScope ["_law_names", "_law_pairs", "_law_weights", "_law_lists", "_law_lots", "_law_made", "_law_name", "_law_rise", "_law_fall", "_law_told", "_law_pair", "_law_again", "_law_lot"] ["_law_names", "_law_pairs", "_law_weights", "_law_lists", "_law_lots", "_law_made", "_law_name"] (defScope s_law_name_right) := ⟨rfl, rfl, rfl, by decide +kernel, rfl, by decide +kernel, by decide +kernel⟩
def sp_law_name_right (C : Addr) : Sp := fun vs H Q _ => ∃ (an ap al ao m : Addr) (v : V) (names : List Str) (pairs : List Pr) (wt : Pr → Int) (x : Str), vs = [.ref an, .ref ap, v, .ref al, .ref ao, .ref m, .str x] ∧ At H (.ref ap) pairs ∧ Wts H v pairs wt ∧
  At H (.ref al) (srt (allP (srt pairs))) ∧ At H (.ref ao) ((srt (allP (srt pairs))).map fun g => leastL (srt names) (left pairs g)) ∧ Deb C H m (srt names) (srt pairs) ∧ x ∈ names ∧ names.length ≤ 12 ∧ pairs.length ≤ 12 ∧ ∀ H', Ex H H' → Q (.bl true) H'
theorem has_law_name_right (T : Txt K mg) (d : Def K mg "_law_name_right" s_law_name_right) (d_law_first_list : Has P w K mg base CX0 "_law_first_list" ["_law_weights", "_law_lists", "_law_met_here"] 2 sp_law_first_list) (d_cheapest_rise : Has P w K mg base (L2.CX P w) "cheapest_rise" ["debate", "weights", "statement"] 9 (sp_cheapest C C_NoStatement C_BadWeights true)) (d_cheapest_fall : Has P w K mg base (L2.CX P w) "cheapest_fall" ["debate", "weights", "statement"] 9 (sp_cheapest C C_NoStatement C_BadWeights false)) (d_KWcheapest_rise : HasKw P w K mg base (L2.CX P w) "cheapest_rise" ["debate", "weights", "statement"] 9 (sp_cheapest C C_NoStatement C_BadWeights true)) (d_KWcheapest_fall : HasKw P w K mg base (L2.CX P w) "cheapest_fall" ["debate", "weights", "statement"] 9 (sp_cheapest C C_NoStatement C_BadWeights false)) (d_law_same : Has P w K mg base CX0 "_law_same" ["_law_found", "_law_due"] 6 (sp_same 4)) (d_least_budget : Has P w K mg base CX0 "least_budget" ["debate", "weights", "statement"] 5 (sp_least_budget C)) (d_law_d_objectors : Has P w K mg base CX0 "_law_d_objectors" ["_law_pairs", "_law_name"] 1 sp_law_d_objectors)  :
    Has P w K mg base CX0 "_law_name_right" ["_law_names", "_law_pairs", "_law_weights", "_law_lists", "_law_lots", "_law_made", "_law_name"] 10 (sp_law_name_right C) := by
  obtain ⟨f, fd, F, m⟩ := d
  have sc := sc_law_name_right
  refine ⟨f, fd, F.ok (k := 9) sc (fun vs H Q E h => (by first | (obtain ⟨h, _⟩ := h; rw [h]; rfl) | (obtain ⟨_, h, _⟩ := h; rw [h]; rfl) | (obtain ⟨_, _, h, _⟩ := h; rw [h]; rfl) | (obtain ⟨_, _, _, h, _⟩ := h; rw [h]; rfl) | (obtain ⟨_, _, _, _, h, _⟩ := h; rw [h]; rfl) | (obtain ⟨_, _, _, _, _, h, _⟩ := h; rw [h]; rfl) | (obtain ⟨_, _, _, _, _, _, h, _⟩ := h; rw [h]; rfl) | (obtain ⟨_, _, _, _, _, _, _, h, _⟩ := h; rw [h]; rfl) | (obtain ⟨_, _, _, _, _, _, _, _, h, _⟩ := h; rw [h]; rfl) | (obtain ⟨_, _, _, _, _, _, _, _, _, h, _⟩ := h; rw [h]; rfl) | (obtain ⟨_, _, _, _, _, _, _, _, _, _, h, _⟩ := h; rw [h]; rfl))) (fun cdv A outer s H vs Q E hr h => ?_), m, F.kp, F.binds fun _ _ _ _ _ _ us hl => match us, hl with | [_, _, _, _, _, _, _], _ => rfl⟩
  obtain ⟨an, ap, al, ao, m, v, names, pairs, wt, x, rfl, hap, hw, hal, hao, dm, hx, hln, hlp, q⟩ := h
  refine ⟨_, ((pss_cons (ps_set (i := 7) sc.nd rfl (by first | exact Or.inl rfl | exact Or.inr rfl) (pe_has d_law_first_list (hr.mono (by decide)) pass0 (by exact (pa_cons (pv 2) (pa_cons (pv 3) (pa_cons (pe_lc (own := [("_law_lot", 12)]) rfl sc.nd (pi_listK K rfl (pv 4)) (blkOk_by (own := [("_law_lot", 12)]) (N := ["_law_names", "_law_pairs", "_law_weights", "_law_lists", "_law_lots", "_law_made", "_law_name", "_law_rise", "_law_fall", "_law_told", "_law_pair", "_law_again", "_law_lot"]) (sc := defScope s_law_name_right) (by decide +kernel)) (fun _ _ _ _ _ => (pg_name (i := 12) sc.nd rfl (by first | exact Or.inl rfl | exact Or.inr rfl))) (fun _ _ _ _ _ => pts_nil) (fun _ _ _ _ _ => (pe_cmpR (op_inA (α := Str) (by decide) (hu65 hr)) (pv 6) (pv 12) (by rfl)))) pa_nil))))))
    (pss_cons (ps_set (i := 8) sc.nd rfl (by first | exact Or.inl rfl | exact Or.inr rfl) (pe_has d_law_first_list (hr.mono (by decide)) pass0 (by exact (pa_cons (pv 2) (pa_cons (pv 3) (pa_cons (pe_lc (own := [("_law_lot", 12)]) rfl sc.nd (pi_listK K rfl (pv 4)) (blkOk_by (own := [("_law_lot", 12)]) (N := ["_law_names", "_law_pairs", "_law_weights", "_law_lists", "_law_lots", "_law_made", "_law_name", "_law_rise", "_law_fall", "_law_told", "_law_pair", "_law_again", "_law_lot"]) (sc := defScope s_law_name_right) (by decide +kernel)) (fun _ _ _ _ _ => (pg_name (i := 12) sc.nd rfl (by first | exact Or.inl rfl | exact Or.inr rfl))) (fun _ _ _ _ _ => pts_nil) (fun _ _ _ _ _ => (pe_cmpR (op_notInA (α := Str) (by decide) (hu65 hr)) (pv 6) (pv 12) (by rfl)))) pa_nil))))))
    (pss_cons (ps_set (i := 9) sc.nd rfl (by first | exact Or.inl rfl | exact Or.inr rfl) (pe_lst (pa_cons (pe_has d_cheapest_rise (hr.mono (by decide)) passL (by exact (pa_cons (pv 5) (pa_cons (pv 2) (pa_cons (pv 6) pa_nil))))) (pa_cons (pe_has d_cheapest_fall (hr.mono (by decide)) passL (by exact (pa_cons (pv 5) (pa_cons (pv 2) (pa_cons (pv 6) pa_nil))))) pa_nil))))
    (pss_cons (ps_if (PW.pt (pw_or (pt_not (pt_val (pe_has d_law_same (hr.mono (by decide)) pass0 (by exact (pa_cons (pv 9) (pa_cons (pe_lst (pa_cons (pv 7) (pa_cons (pv 8) pa_nil))) pa_nil)))))) (pw_or1 (pt_cmpR op_ne (pe_cmp (pc_isN (pv 8)) rfl) (pe_cmpR (op_eqA (α := List (Str)) (by decide) (hu64 hr)) (pe_has d_law_d_objectors (hr.mono (by decide)) pass0 (by exact (pa_cons (pv 1) (pa_cons (pv 6) pa_nil)))) (pe_lst pa_nil) (nomark _)) (nomark _)))))
      (pss_one (ps_ret pe_bl))
      pss_nil)
    (pss_cons (ps_for PassesOwn.never rfl (pi_listK K rfl (pe_slice (sl_listK K rfl) (pv 9) po_none (po_some (pe_ifExp (pt_cmp (pc_isN (pv 8)) rfl) pe_int pe_int)))) (pg_name (i := 10) sc.nd rfl (by first | exact Or.inl rfl | exact Or.inr rfl))
      (pss_one (ps_expr (pe_bmK K rfl PySem.F.plainAttrs_list PySem.F.slot_list_append PySem.F.type_list_append mt_append (pe_ix (ix_tupK K rfl) (pv 10) pe_int (fun _ _ => rfl)) (pa_cons pe_str pa_nil)))))
    (pss_cons (ps_set (i := 11) sc.nd rfl (by first | exact Or.inl rfl | exact Or.inr rfl) (pe_lst (pa_cons (pe_hasK d_KWcheapest_rise (hr.mono (by decide)) passL (pk_cons (pv 6) (pk_cons (pv 2) (pk_cons (pv 5) pk_nil)))) pa_nil)))
    (pss_cons (ps_expr (pe_bmK K rfl PySem.F.plainAttrs_list PySem.F.slot_list_append PySem.F.type_list_append mt_append (pv 11) (pa_cons (pe_hasK d_KWcheapest_fall (hr.mono (by decide)) passL (pk_cons (pv 6) (pk_cons (pv 2) (pk_cons (pv 5) pk_nil)))) pa_nil)))
    (pss_one (ps_ret (pe_and (pe_has d_law_same (hr.mono (by decide)) pass0 (by exact (pa_cons (pv 11) (pa_cons (pe_lst (pa_cons (pv 7) (pa_cons (pv 8) pa_nil))) pa_nil)))) (pe_one (pe_cmpR op_ge (pe_ix (ix_tupK K rfl) (pv 7) pe_int (fun _ _ => rfl)) (pe_has d_least_budget (hr.mono (by decide)) pass0 (by exact (pa_cons (pv 5) (pa_cons (pv 2) (pa_cons (pv 6) pa_nil))))) (nomark _)))))))))))))), ?_⟩
  have hx' : x ∈ srt names := srt_mem.mpr hx
  have xok := dm.nms.ok x hx'
  have hmem : ∀ p, p ∈ srt pairs ↔ p ∈ pairs := fun p => srt_mem
  have pl : (srt pairs).length = pairs.length := srt_length pairs
  have lot : (srt (allP (srt pairs))).length ≤ 4096 := by rw [srt_length]; exact Nat.le_trans (allP_len _) (Nat.le_trans (Nat.pow_le_pow_right (by decide) (show (srt pairs).length ≤ 12 by omega)) (by decide))
  have lsub : ∀ l ∈ srt (allP (srt pairs)), l.Sublist (srt pairs) := fun l hl => allP_sub (srt_mem.mp hl)
  have hw2 : Wts H v (srt pairs) wt := hw.perm (srt_perm pairs).symm
  obtain ⟨lvs, hl1, hlE⟩ := Each.ofAt hao
  have ll := hlE.length
  have nmL : ∀ g, Nms (leastL (srt names) (left pairs g)) := fun g => nms_in dm.nms leastL_sub.subset
  -- the law's two searches
  refine ⟨_, rfl, _, rfl, _, rfl, ao, rfl, ⟨_, SqL.of hl1⟩, fun D1 hD1 => lcL (R := fun _ v l => At H v l) (S := BlR) (f := fun l => some (decide (x ∈ l))) (xs := (srt (allP (srt pairs))).map fun g => leastL (srt names) (left pairs g)) ⟨fun _ _ _ _ _ h => h⟩ bl_stays (fun _ e => SqL.of (e _ _ hl1)) hlE hD1 (by rw [List.length_map]; omega) (fun u l H2 e2 hu hl Kn Ky kn ky => ?_) (fun H2 md => ?_)⟩
  · exact ⟨rfl, _, rfl, _, rfl, x, l, at_str xok, Enc.mono e2 hu, ky _ _ _ (Ex.refl _) rfl fun _ _ _ => rfl⟩
  obtain ⟨_, ex1, ws1, hD1', hp1⟩ := md
  have hB1 : H2 D1 = some (.lst (((srt (allP (srt pairs))).map fun g => decide (x ∈ leastL (srt names) (left pairs g))).map V.bl)) := by
    rw [hD1', bls_eq hp1, fm_map]
    simp only [List.map_map, Function.comp_def]
  refine ⟨v, al, D1, srt pairs, wt, srt (allP (srt pairs)), _, rfl, hw2.mono ex1, Enc.mono ex1 hal, lsub, lot, by omega, hB1, by rw [List.length_map], fun rise H3 e3 hrise => ?_⟩
  have e03 := ex1.trans e3
  refine ⟨_, rfl, _, rfl, _, rfl, ao, rfl, ⟨_, SqL.of (e03 _ _ hl1)⟩, fun D2 hD2 => lcL (R := fun _ v l => At H v l) (S := BlR) (f := fun l => some (!decide (x ∈ l))) (xs := (srt (allP (srt pairs))).map fun g => leastL (srt names) (left pairs g)) ⟨fun _ _ _ _ _ h => h⟩ bl_stays (fun _ e => SqL.of (e _ _ (e03 _ _ hl1))) hlE hD2 (by rw [List.length_map]; omega) (fun u l H2 e2 hu hl Kn Ky kn ky => ?_) (fun H4 md => ?_)⟩
  · exact ⟨rfl, _, rfl, _, rfl, x, l, at_str xok, Enc.mono (e03.trans e2) hu, ky _ _ _ (Ex.refl _) rfl fun _ _ _ => rfl⟩
  obtain ⟨_, ex2, ws2, hD2', hp2⟩ := md
  have hB2 : H4 D2 = some (.lst (((srt (allP (srt pairs))).map fun g => !decide (x ∈ leastL (srt names) (left pairs g))).map V.bl)) := by
    rw [hD2', bls_eq hp2, fm_map]
    simp only [List.map_map, Function.comp_def]
  have e04 := e03.trans ex2
  refine ⟨v, al, D2, srt pairs, wt, srt (allP (srt pairs)), _, rfl, hw2.mono e04, Enc.mono e04 hal, lsub, lot, by omega, hB2, by rw [List.length_map], fun fall H5 e5 hfall => ?_⟩
  have e05 := e04.trans e5
  have hrise5 := hrise.mono (ex2.trans e5)
  have inE : ∀ g, inL (srt names) (srt pairs) x g = decide (x ∈ leastL (srt names) (left pairs g)) := fun g => by
    unfold inL
    rw [srt_srt, leastL_eq (ps' := left pairs g) fun p => by rw [srt_mem, mem_left, List.mem_filter, srt_mem]; simp]
  have hC1 : cheapF wt (fun l => decide (inL (srt names) (srt pairs) x l = true)) (srt (allP (srt pairs))) = firstL wt (srt (allP (srt pairs))) ((srt (allP (srt pairs))).map fun g => decide (x ∈ leastL (srt names) (left pairs g))) := by
    rw [cheap_first wt _ _ (srt_sorted _)]
    congr 1
    refine List.map_congr_left fun g _ => ?_
    rw [inE]
    simp
  have hC2 : cheapF wt (fun l => decide (inL (srt names) (srt pairs) x l = false)) (srt (allP (srt pairs))) = firstL wt (srt (allP (srt pairs))) ((srt (allP (srt pairs))).map fun g => !decide (x ∈ leastL (srt names) (left pairs g))) := by
    rw [cheap_first wt _ _ (srt_sorted _)]
    congr 1
    refine List.map_congr_left fun g _ => ?_
    rw [inE]
    by_cases hb : x ∈ leastL (srt names) (left pairs g) <;> simp [hb]
  have hN1 : firstL wt (srt (allP (srt pairs))) ((srt (allP (srt pairs))).map fun g => decide (x ∈ leastL (srt names) (left pairs g))) ≠ none := rise_found hmem hx'
  have hN2 : firstL wt (srt (allP (srt pairs))) ((srt (allP (srt pairs))).map fun g => !decide (x ∈ leastL (srt names) (left pairs g))) = none ↔ objectors pairs x = [] := fall_found hmem hx'
  have hS1 : ∀ i g, firstL wt (srt (allP (srt pairs))) ((srt (allP (srt pairs))).map fun g => decide (x ∈ leastL (srt names) (left pairs g))) = some (i, g) → g ∈ srt (allP (srt pairs)) ∧ decide (x ∈ leastL (srt names) (left pairs g)) = true ∧ i = goneW wt g := fun i g h => firstL_some h
  have hS2 : ∀ i g, firstL wt (srt (allP (srt pairs))) ((srt (allP (srt pairs))).map fun g => !decide (x ∈ leastL (srt names) (left pairs g))) = some (i, g) → g ∈ srt (allP (srt pairs)) ∧ (!decide (x ∈ leastL (srt names) (left pairs g))) = true ∧ i = goneW wt g := fun i g h => firstL_some h
  generalize firstL wt (srt (allP (srt pairs))) ((srt (allP (srt pairs))).map fun g => decide (x ∈ leastL (srt names) (left pairs g))) = R1 at hrise5 hrise hC1 hN1 hS1
  generalize firstL wt (srt (allP (srt pairs))) ((srt (allP (srt pairs))).map fun g => !decide (x ∈ leastL (srt names) (left pairs g))) = R2 at hfall hC2 hN2 hS2
  have z1 : ∀ i g, R1 = some (i, g) → g.length ≤ 1000 := fun i g h => by have := (lsub g (hS1 i g h).1).length_le; omega
  have z2 : ∀ i g, R2 = some (i, g) → g.length ≤ 1000 := fun i g h => by have := (lsub g (hS2 i g h).1).length_le; omega
  have dm5 := dm.mono e05
  have hw5 := hw2.mono e05
  have hap5 := Enc.mono e05 hap
  clear hD1' hD2' hB1 hB2
  refine ⟨_, rfl, _, rfl, _, rfl, m, srt names, srt pairs, v, .str x, rfl, dm5, Or.inl ⟨wt, x, hw5, rfl, hx', by omega, fun t1 H6 e6 ht1 => ?_⟩⟩
  rw [hC1] at ht1
  refine ⟨_, rfl, _, rfl, _, rfl, m, srt names, srt pairs, v, .str x, rfl, dm5.mono e6, Or.inl ⟨wt, x, hw5.mono e6, rfl, hx', by omega, fun t2 H7 e7 ht2 => ⟨(by show 2 ≤ sizeLine; decide), fun tl htl => ?_⟩⟩⟩
  rw [hC2] at ht2
  have e68 : Ex H6 (upd H7 tl (.lst [t1, t2])) := e7.trans (Ex.new htl)
  have e78 : Ex H7 (upd H7 tl (.lst [t1, t2])) := Ex.new htl
  have htl8 : (upd H7 tl (.lst [t1, t2])) tl = some (.lst [t1, t2]) := upd_same
  have tr1 : TrAt H7 3 t1 (foundTr R1) := (ht1.tr z1).mono e7
  have tr2 : TrAt H7 3 t2 (foundTr R2) := ht2.tr z2
  have ht1' : Told H5 (upd H7 tl (.lst [t1, t2])) t1 R1 := ht1.mono e68
  have ht2' : Told H6 (upd H7 tl (.lst [t1, t2])) t2 R2 := ht2.mono e78
  have e58 : Ex H5 (upd H7 tl (.lst [t1, t2])) := e6.trans e68
  have tr1' := tr1.mono e78
  have tr2' := tr2.mono e78
  have e68' := e68
  generalize upd H7 tl (.lst [t1, t2]) = H8 at e68 e78 htl8 ht1' ht2' e58 tr1' tr2' e68'
  refine ⟨_, rfl, _, rfl, _, rfl, (by show 2 ≤ sizeLine; decide), fun dl hdl => ?_⟩
  have e89 : Ex H8 (upd H8 dl (.lst [rise, fall])) := Ex.new hdl
  refine ⟨.ref tl, .ref dl, .lst [foundTr R1, foundTr R2], rfl, .lst (e89 _ _ htl8) (by show 2 ≤ 10000; omega) (.cons (tr1'.mono e89) (.cons (tr2'.mono e89) .nil)), .lst upd_same (by show 2 ≤ 10000; omega) (.cons ((hrise5.tr z1).mono (e58.trans e89)) (.cons ((hfall.tr z2).mono (e58.trans e89)) .nil)), fun H9 e9 => ⟨_, rfl, iteF ?_⟩⟩
  have e8' := e89.trans e9
  refine ⟨_, rfl, _, rfl, _, rfl, ap, pairs, x, rfl, Enc.mono (e58.trans e8') hap5, by omega, fun po H10 hpo e10 hAo => ⟨(by show 0 ≤ _; exact Nat.zero_le _), fun pn hpn => ⟨_, [], Enc.mono (Ex.new hpn) hAo, at_list upd_same .nil, rfl, _, rfl, ?_⟩⟩⟩
  have eqB : decide (fall = V.non) = decide (srt (objectors pairs x) = []) := by
    rw [decide_eq_decide]
    have s0 : srt (objectors pairs x) = [] ↔ objectors pairs x = [] := by
      rw [← List.length_eq_zero_iff, srt_length, List.length_eq_zero_iff]
    rw [s0, ← hN2]
    cases hR : R2 with
    | none =>
      rw [hR] at hfall
      have : fall = .non := hfall
      simp [this]
    | some r =>
      rw [hR] at hfall
      obtain ⟨t, a, b, hh, _⟩ := hfall
      rw [hh]
      simp
  refine iteND (by rw [eqB]) ?_
  have e811 : Ex H8 (upd H10 pn (.lst [])) := (e8'.trans e10).trans (Ex.new hpn)
  generalize upd H10 pn (.lst []) = H11 at e811
  have e511 := e58.trans e811
  -- after the loop
  have after : ∀ (H' : Hp) (u : Option V) (Dx : Ends), Dx.rt = Q → Ex H5 H' → tSeq
                        (tAsg
                          (tLst
                            (tCons
                              (tCallR (sp_cheapest C C_NoStatement C_BadWeights true) E0
                                (tCons (tVar 6) (tCons (tVar 2) (tCons (tVar 5) tNil))))
                              tNil))
                          (gName 11))
                        (tSeq
                          (tDrop
                            (tBM K "list" rAppend (tVar 11)
                              (tCons
                                (tCallR (sp_cheapest C C_NoStatement C_BadWeights false) E0
                                  (tCons (tVar 6) (tCons (tVar 2) (tCons (tVar 5) tNil))))
                                tNil)))
                          (tRet
                            (tAndV
                              (tCall (sp_same 4) [] E0
                                (tCons (tVar 11) (tCons (tLst (tCons (tVar 7) (tCons (tVar 8) tNil))) tNil)))
                              (tOp (rI0 fun i j => V.bl (decide (j ≤ i))) (tOp (rIxT K) (tVar 7) (tC (V.int 0)))
                                (tCall (sp_least_budget C) [] E0
                                  (tCons (tVar 5) (tCons (tVar 2) (tCons (tVar 6) tNil)))))))) Dx [some (.ref an), some (.ref ap), some v, some (.ref al), some (.ref ao), some (.ref m), some (.str x), some rise, some fall, some (.ref tl), u, none, none] H' := by
    intro H' u Dx hDx e5'
    refine ⟨_, rfl, _, rfl, _, rfl, m, srt names, srt pairs, v, .str x, rfl, dm5.mono e5', Or.inl ⟨wt, x, hw5.mono e5', rfl, hx', by omega, fun t3 I1 f1 ht3 => ⟨(by show 1 ≤ sizeLine; decide), fun al' hal' => ?_⟩⟩⟩
    rw [hC1] at ht3
    have g1 : Ex H' (upd I1 al' (.lst [t3])) := f1.trans (Ex.new hal')
    have tr3 := (ht3.tr z1)
    refine ⟨_, rfl, Or.inl ⟨rfl, _, SqL.of upd_same⟩, _, rfl, _, rfl, _, rfl, m, srt names, srt pairs, v, .str x, rfl, dm5.mono (e5'.trans g1), Or.inl ⟨wt, x, hw5.mono (e5'.trans g1), rfl, hx', by omega, fun t4 I3 f3 ht4 => ?_⟩⟩
    rw [hC2] at ht4
    have hal3 := f3 _ _ (upd_same (H := I1) (a := al') (o := .lst [t3]))
    refine ⟨al', [t3], t4, rfl, rfl, hal3, (by show 1 < sizeLine; decide), ?_⟩
    have ht4' : Told (upd I1 al' (.lst [t3])) (upd I3 al' (.lst ([t3] ++ [t4]))) t4 R2 := ht4.row ⟨_, upd_same⟩ hal3
    have g13 : Ex I1 (upd I3 al' (.lst ([t3] ++ [t4]))) := Ex.mut ((Ex.new hal').trans f3) hal'
    have tr3' := tr3.mono g13
    have tr4' := ht4'.tr z2
    have g03 : Ex H5 (upd I3 al' (.lst ([t3] ++ [t4]))) := e5'.trans (f1.trans g13)
    have hal4 : (upd I3 al' (.lst ([t3] ++ [t4]))) al' = some (.lst [t3, t4]) := upd_same
    generalize upd I3 al' (.lst ([t3] ++ [t4])) = I4 at ht4' g13 tr3' tr4' g03 hal4
    refine ⟨_, rfl, _, rfl, _, rfl, (by show 2 ≤ sizeLine; decide), fun dl2 hdl2 => ?_⟩
    have g45 : Ex I4 (upd I4 dl2 (.lst [rise, fall])) := Ex.new hdl2
    refine ⟨.ref al', .ref dl2, .lst [foundTr R1, foundTr R2], rfl, .lst (g45 _ _ hal4) (by show 2 ≤ 10000; omega) (.cons (tr3'.mono g45) (.cons (tr4'.mono g45) .nil)), .lst upd_same (by show 2 ≤ 10000; omega) (.cons ((hrise5.tr z1).mono (g03.trans g45)) (.cons ((hfall.tr z2).mono (g03.trans g45)) .nil)), fun I5 g5 => ⟨true, rfl, iteT ?_⟩⟩
    have g05 := g03.trans (g45.trans g5)
    cases hR : R1 with
    | none => exact absurd hR hN1
    | some r =>
      obtain ⟨w1, g1'⟩ := r
      rw [hR] at hrise5
      obtain ⟨tr, a, b, hre, htr, ha, hb⟩ := hrise5
      have ha' : a = .int w1 := ha
      subst ha'
      obtain ⟨q1, q2, q3⟩ := hS1 w1 g1' hR
      subst hre
      refine ⟨_, rfl, tr, _, 0, .int w1, rfl, rfl, SqT.of (g05 _ _ htr), rfl, _, rfl, _, rfl, _, rfl, m, srt names, srt pairs, v, wt, x, rfl, dm5.mono g05, hw5.mono g05, (by rw [srt_length]; exact hln), hx', fun i I6 g6 hi => ⟨w1, i, rfl, rfl, ?_⟩⟩
      have hle : i ≤ w1 := by
        rw [q3]
        obtain ⟨_, _, _, _, _, hwt⟩ := hw5
        exact budget_le hmem dm.ndp (fun p hp => (hwt p hp).2) (lsub g1' q1).subset (of_decide_eq_true q2) hi
      show Dx.rt (.bl (decide (i ≤ w1))) I6
      rw [hDx, decide_eq_true hle]
      exact q _ (e05.trans (g05.trans g6))
  have htl11 := e811 _ _ htl8
  have ht1'' := ht1'.mono e811
  have ht2'' := ht2'.mono e811
  cases hR1 : R1 with
  | none => exact absurd hR1 hN1
  | some r1 =>
  obtain ⟨w1, g1⟩ := r1
  rw [hR1] at ht1''
  obtain ⟨a1, l1, vs1, rfl, h11, h12, h13, h14⟩ := ht1''
  have hz1 := h13.length
  have hz1' := z1 w1 g1 hR1
  have s1 : (1001 : Nat) < sizeLine := by decide
  cases hR2 : R2 with
  | none =>
    rw [hR2] at hfall
    have hf : fall = .non := hfall
    subst hf
    refine ⟨_, rfl, _, rfl, _, rfl, iteD rfl ⟨1, rfl, tl, _, rfl, SqL.of htl11, fun sl hsl => ?_⟩⟩
    have e12 : Ex H11 (upd H11 sl (.lst [.ref a1])) := Ex.new hsl
    have hsl2 : (upd H11 sl (.lst [.ref a1])) sl = some (.lst [.ref a1]) := upd_same
    have hcut : cutV [V.ref a1, t2] none (some 1) = [V.ref a1] := cut_take [V.ref a1, t2] 1 (by simp)
    rw [hcut]
    have l1n : H11 l1 ≠ none := fun e => by rw [h12] at e; cases e
    have l1s : sl ≠ l1 := fun e => l1n (by rw [← e]; exact hsl)
    refine ⟨sl, rfl, ⟨_, SqL.of hsl2⟩, forG 1 (fun i σ H' => (∃ u, σ = [some (.ref an), some (.ref ap), some v, some (.ref al), some (.ref ao), some (.ref m), some (.str x), some rise, some .non, some (.ref tl), u, none, none]) ∧ Ex H5 H' ∧ H' sl = some (.lst [.ref a1]) ∧ (i = 0 → H' = upd H11 sl (.lst [.ref a1]))) ⟨⟨_, rfl⟩, e511.trans e12, hsl2, fun _ => rfl⟩ (fun i σ H' hi ⟨_, _, h, _⟩ => ⟨_, [V.ref a1][i], SqL.of h, List.getElem?_eq_getElem (by exact hi)⟩) (fun σ H' ⟨_, _, h, _⟩ => ⟨_, SqL.of h, Nat.le_refl 1⟩) ?_ ?_⟩
    · rintro i σ H' y H'' hi ⟨⟨u, rfl⟩, eH, hs, h0⟩ ⟨rfl, hy⟩
      have i0 : i = 0 := by omega
      subst i0
      have hy' := hy _ (SqL.of hs)
      have ey : V.ref a1 = y := Option.some.inj hy'
      subst ey
      have hG := h0 rfl
      have ha1 : H'' a1 = some (.tup [.int w1, .ref l1]) := by rw [hG]; exact e12 _ _ h11
      have hl1' : H'' l1 = some (.lst vs1) := by rw [hG]; exact e12 _ _ h12
      exact ⟨_, rfl, a1, _, 1, .ref l1, rfl, rfl, SqT.of ha1, rfl, Or.inl ⟨rfl, _, SqL.of hl1'⟩, l1, vs1, .str "late", rfl, rfl, hl1', by omega, ⟨_, rfl⟩, Ex.mut eH h14, by rw [upd_ne l1s]; exact hs, fun h => by cases h⟩
    · rintro σ H' ⟨⟨u, rfl⟩, eH, hs, _⟩
      exact after H' u _ rfl eH
  | some r2 =>
    obtain ⟨w2, g2⟩ := r2
    have hfn : ¬ fall = V.non := fun e => by
      rw [hR2, e] at hfall
      obtain ⟨t, a, b, hh, _⟩ := hfall
      cases hh
    rw [hR2] at ht2''
    obtain ⟨a2, l2, vs2, rfl, h21, h22, h23, h24⟩ := ht2''
    have hz2 := h23.length
    have hz2' := z2 w2 g2 hR2
    have l12 : l2 ≠ l1 := fun e => by
      have hT := ht1
      rw [hR1] at hT
      obtain ⟨_, l1', vs', hq, k1, k2, k3, k4⟩ := hT
      cases hq
      have := e68' _ _ k1
      have h11' := e811 _ _ this
      rw [h11] at h11'
      cases h11'
      rw [e, k2] at h24
      cases h24
    refine ⟨_, rfl, _, rfl, _, rfl, iteDn hfn ⟨2, rfl, tl, _, rfl, SqL.of htl11, fun sl hsl => ?_⟩⟩
    have e12 : Ex H11 (upd H11 sl (.lst [.ref a1, .ref a2])) := Ex.new hsl
    have hsl2 : (upd H11 sl (.lst [.ref a1, .ref a2])) sl = some (.lst [.ref a1, .ref a2]) := upd_same
    have hcut : cutV [V.ref a1, V.ref a2] none (some 2) = [V.ref a1, V.ref a2] := cut_take [V.ref a1, V.ref a2] 2 (by simp)
    rw [hcut]
    have l1s : sl ≠ l1 := fun e => by rw [e, h12] at hsl; cases hsl
    have l2s : sl ≠ l2 := fun e => by rw [e, h22] at hsl; cases hsl
    have a2l1 : a2 ≠ l1 := fun e => by rw [e, h12] at h21; cases h21
    refine ⟨sl, rfl, ⟨_, SqL.of hsl2⟩, forG 2 (fun i σ H' => (∃ u, σ = [some (.ref an), some (.ref ap), some v, some (.ref al), some (.ref ao), some (.ref m), some (.str x), some rise, some fall, some (.ref tl), u, none, none]) ∧ Ex H5 H' ∧ H' sl = some (.lst [.ref a1, .ref a2]) ∧ (i = 0 → H' = upd H11 sl (.lst [.ref a1, .ref a2])) ∧ (i = 1 → H' a2 = some (.tup [.int w2, .ref l2]) ∧ H' l2 = some (.lst vs2))) ⟨⟨_, rfl⟩, e511.trans e12, hsl2, fun _ => rfl, fun h => by cases h⟩ (fun i σ H' hi ⟨_, _, h, _⟩ => ⟨_, [V.ref a1, V.ref a2][i], SqL.of h, List.getElem?_eq_getElem (by exact hi)⟩) (fun σ H' ⟨_, _, h, _⟩ => ⟨_, SqL.of h, Nat.le_refl 2⟩) ?_ ?_⟩
    · rintro i σ H' y H'' hi ⟨⟨u, rfl⟩, eH, hs, h0, h1⟩ ⟨rfl, hy⟩
      have hy' := hy _ (SqL.of hs)
      have hi' : i = 0 ∨ i = 1 := by omega
      rcases hi' with rfl | rfl
      · have ey : V.ref a1 = y := Option.some.inj hy'
        subst ey
        have hG := h0 rfl
        have ha1 : H'' a1 = some (.tup [.int w1, .ref l1]) := by rw [hG]; exact e12 _ _ h11
        have hl1' : H'' l1 = some (.lst vs1) := by rw [hG]; exact e12 _ _ h12
        refine ⟨_, rfl, a1, _, 1, .ref l1, rfl, rfl, SqT.of ha1, rfl, Or.inl ⟨rfl, _, SqL.of hl1'⟩, l1, vs1, .str "late", rfl, rfl, hl1', by omega, ⟨_, rfl⟩, Ex.mut eH h14, by rw [upd_ne l1s]; exact hs, fun h => (by cases h), fun _ => ⟨?_, ?_⟩⟩
        · rw [upd_ne a2l1, hG]; exact e12 _ _ h21
        · rw [upd_ne l12, hG]; exact e12 _ _ h22
      · have ey : V.ref a2 = y := Option.some.inj hy'
        subst ey
        obtain ⟨ha2, hl2'⟩ := h1 rfl
        exact ⟨_, rfl, a2, _, 1, .ref l2, rfl, rfl, SqT.of ha2, rfl, Or.inl ⟨rfl, _, SqL.of hl2'⟩, l2, vs2, .str "late", rfl, rfl, hl2', by omega, ⟨_, rfl⟩, Ex.mut eH (fresh_back e6 h24), by rw [upd_ne l2s]; exact hs, fun h => (by cases h), fun h => (by cases h)⟩
    · rintro σ H' ⟨⟨u, rfl⟩, eH, hs, _⟩
      exact after H' u _ rfl eH
end
end K73
set_option maxRecDepth 100000
set_option maxHeartbeats 4000000
namespace K73
open Enc (At enc)
open PySem L2 Evl
abbrev freshW : Str := "fresh"
theorem fresh_nm : isNm freshW = true := by decide +kernel
/-- what the text's == of two debates of the same parts promises -/
def sp_eq (C : Addr) : Sp := fun vs H Q _ => ∃ (m1 m2 : Addr) (ns : List Str) (ps : List Pr), vs = [.ref m1, .ref m2] ∧ Deb C H m1 ns ps ∧ Deb C H m2 ns ps ∧ ∀ H', Ex H H' → Q (.bl true) H'
/-- the class at C has an own == -/
def HasEq (P : Program) (w : World) (K : PySem.W.Frag) (mg : Str → Option Value) (base : Heap) (C : Addr) (k : Nat) : Prop :=
  ∃ (f : Addr) (fd : FuncData) (ps : List Str), PySem.W.findIn K (.ref C) "__eq__" = some (some (.ref f)) ∧ PySem.W.isFn K (.ref f) = true ∧ PySem.W.findIn K (.ref C) "__ne__" = some (some (.builtin "object.__ne__")) ∧ PySem.W.subIn K (.ref C) (.type "object") = some true ∧ FnOk P w K mg base CX0 k f fd ps (sp_eq C) ∧ Binds K fd ps []
def rNeDeb (C : Addr) : R2 := fun x y H Q => ∃ (m1 m2 : Addr) (ns : List Str) (ps : List Pr), x = .ref m1 ∧ y = .ref m2 ∧ Deb C H m1 ns ps ∧ Deb C H m2 ns ps ∧ ∀ H', Ex H H' → Q (.bl false) H'
theorem op_neDeb {X : Cx} {C : Addr} {k : Nat} (h : HasEq X.prog X.w X.K X.mg X.base C k) (hr : Room (k + 1) X.A) : OpR X (compareOp .NotEq) (rNeDeb C) := by
  intro pins s σ H x y v u Q I rx ry hq
  obtain ⟨m1, m2, ns, ps, rfl, rfl, d1, d2, q⟩ := hq
  cases rx
  cases ry
  obtain ⟨f, fd, pp, he, hf, hn, hsub, F, hb⟩ := h
  obtain ⟨⟨_, _, _, _, _, _, _, _, i1, _⟩, _⟩ := id d1
  obtain ⟨⟨_, _, _, _, _, _, _, _, i2, _⟩, _⟩ := id d2
  obtain ⟨_, J1, _⟩ := ins_get I.hok i1
  obtain ⟨_, J2, _⟩ := ins_get I.hok i2
  obtain ⟨od1, J1, _⟩ := J1.look
  obtain ⟨od2, J2, _⟩ := J2.look
  show wpAny (model X.prog X.w) X.A (richCompare .NotEq (.ref m1) (.ref m2)) (EP X pins σ Q) X.xe s
  refine rc_ne (by have := hr.un; omega) I.kIn J1 J2.type hsub hn he hf ?_
  have hsp : sp_eq C [.ref m1, .ref m2] H (fun v H' => v = .bl true ∧ Ex H H') E0 := ⟨m1, m2, ns, ps, rfl, d1, d2, fun H' e => ⟨rfl, e⟩⟩
  have hl := F.len _ _ _ _ hsp
  have hbt := hb s [.ref m1, .ref m2] I.kIn (by simpa using hl)
  refine wpAny_call (codeAny_mono (F.run X.A.in1 X.stack s H ⟨[.ref m1, .ref m2], []⟩ [.ref m1, .ref m2] [.ref m1, .ref m2] _ E0 hr.in1 I.env0.in1 (by simpa using hbt) (.cons rfl (.cons rfl .nil)) hsp) fun r s' hq => ?_)
  cases r with
  | error e => exact hq.elim
  | ok fl =>
    cases fl with
    | ret w =>
      obtain ⟨z, H', I', rz, ez, ex⟩ := I.after hq
      subst ez
      cases rz
      exact ⟨true, rfl, .bl false, H', I', rfl, q _ ex⟩
    | next => exact hq.elim
    | brk => exact hq.elim
    | cont => exact hq.elim
theorem ansP_perm {ps qs : List Pr} (p : ps.Perm qs) (x y : Str) : (ansP ps x y).Perm (ansP qs x y) := by
  unfold ansP objectors
  exact (((p.filter _).map _).filter _).map _
theorem one_tr {H : Hp} {v : V} {ns : List Str} {ps : List Pr} (h : At H v (ns, ps)) (h1 : ns.length ≤ 1000) (h2 : ps.length ≤ 1000) : TrAt H 4 v (.tup [.lst (ns.map Tr.str), .lst (ps.map prTr)]) := by
  obtain ⟨t, a, b, rfl, ht, ha, hb⟩ := h
  obtain ⟨p, rfl, hp⟩ := at_strs ha
  obtain ⟨l, vs, rfl, hl, he⟩ := hb
  exact .tup ht (by show 2 ≤ 10000; omega) (.cons (.lst hp (by rw [List.length_map]; exact Nat.le_trans h1 (by decide)) (strs_tr 2 ns)) (.cons (.lst hl (by rw [he.length]; exact Nat.le_trans h2 (by decide)) (prs_tr 1 he)) .nil))
section
variable {P : Program} {w : World} {K : PySem.W.Frag} {mg : Str → Option Value} {base : Heap} {C C_NoStatement C_BadWeights C_BadName : Addr}
abbrev s_law_answer_right : Stmt := top 81
theorem sc_law_answer_right : FnScope ["_law_names", "_law_pairs", "_law_made", "_law_name", "_law_told", "_law_rows", "_law_one"] ["_law_names", "_law_pairs", "_law_made", "_law_name"] (defScope s_law_answer_right) := ⟨rfl, rfl, rfl, by decide +kernel, rfl, by decide +kernel, by decide +kernel⟩
def sp_law_answer_right (C : Addr) : Sp := fun vs H Q _ => ∃ (an ap m : Addr) (names : List Str) (pairs : List Pr) (x : Str), vs = [.ref an, .ref ap, .ref m, .str x] ∧ At H (.ref an) names ∧ At H (.ref ap) pairs ∧ Deb C H m (srt names) (srt pairs) ∧ x ∈ names ∧ freshW ∉ names ∧ names.length ≤ 11 ∧ pairs.length ≤ 12 ∧ ∀ H', Ex H H' → Q (.bl true) H'
theorem has_law_answer_right (T : Txt K mg) (d : Def K mg "_law_answer_right" s_law_answer_right) (d_with_answer : Has P w K mg base (L2.CX P w) "with_answer" ["debate", "statement", "name"] 7 (sp_with_answer C C_NoStatement C_BadName)) (d_law_same : Has P w K mg base CX0 "_law_same" ["_law_found", "_law_due"] 6 (sp_same 4)) (d_KWwith_answer : HasKw P w K mg base (L2.CX P w) "with_answer" ["debate", "statement", "name"] 7 (sp_with_answer C C_NoStatement C_BadName)) (d_stands : Has P w K mg base CX0 "stands" ["debate", "way", "statement", "how"] 5 (sp_stands C)) (d_least_lot : Has P w K mg base CX0 "least_lot" ["debate"] 3 (sp_least_lot C)) (d_law_m_one : Has P w K mg base CX0 "_law_m_one" ["_law_debate"] 2 (sp_law_m_one C)) (d_law_d_objectors : Has P w K mg base CX0 "_law_d_objectors" ["_law_pairs", "_law_name"] 1 sp_law_d_objectors) (d_eq : HasEq P w K mg base C 2) :
    Has P w K mg base CX0 "_law_answer_right" ["_law_names", "_law_pairs", "_law_made", "_law_name"] 8 (sp_law_answer_right C) := by
  obtain ⟨f, fd, F, m⟩ := d
  have sc := sc_law_answer_right
  refine ⟨f, fd, F.ok (k := 7) sc (fun vs H Q E h => (by first | (obtain ⟨h, _⟩ := h; rw [h]; rfl) | (obtain ⟨_, h, _⟩ := h; rw [h]; rfl) | (obtain ⟨_, _, h, _⟩ := h; rw [h]; rfl) | (obtain ⟨_, _, _, h, _⟩ := h; rw [h]; rfl) | (obtain ⟨_, _, _, _, h, _⟩ := h; rw [h]; rfl) | (obtain ⟨_, _, _, _, _, h, _⟩ := h; rw [h]; rfl) | (obtain ⟨_, _, _, _, _, _, h, _⟩ := h; rw [h]; rfl) | (obtain ⟨_, _, _, _, _, _, _, h, _⟩ := h; rw [h]; rfl) | (obtain ⟨_, _, _, _, _, _, _, _, h, _⟩ := h; rw [h]; rfl) | (obtain ⟨_, _, _, _, _, _, _, _, _, h, _⟩ := h; rw [h]; rfl) | (obtain ⟨_, _, _, _, _, _, _, _, _, _, h, _⟩ := h; rw [h]; rfl))) (fun cdv A outer s H vs Q E hr h => ?_), m, F.kp, F.binds fun _ _ _ _ _ _ us hl => match us, hl with | [_, _, _, _], _ => rfl⟩
  obtain ⟨an, ap, m, names, pairs, x, rfl, han, hap, dm, hx, hfr, hln, hlp, q⟩ := h
  refine ⟨_, ((pss_cons (ps_set (i := 4) sc.nd rfl (by first | exact Or.inl rfl | exact Or.inr rfl) (pe_has d_with_answer (hr.mono (by decide)) passL (by exact (pa_cons (pv 2) (pa_cons (pv 3) (pa_cons pe_str pa_nil))))))
    (pss_cons (ps_set (i := 5) sc.nd rfl (by first | exact Or.inl rfl | exact Or.inr rfl) (pe_op op_cat (pv 1) (pe_lc (own := [("_law_one", 6)]) rfl sc.nd (pi_listK K rfl (pe_has d_law_d_objectors (hr.mono (by decide)) pass0 (by exact (pa_cons (pv 1) (pa_cons (pv 3) pa_nil))))) (blkOk_by (own := [("_law_one", 6)]) (N := ["_law_names", "_law_pairs", "_law_made", "_law_name", "_law_told", "_law_rows", "_law_one"]) (sc := defScope s_law_answer_right) (by decide +kernel)) (fun _ _ _ _ _ => (pg_name (i := 6) sc.nd rfl (by first | exact Or.inl rfl | exact Or.inr rfl))) (fun _ _ _ _ _ => (pts_one (pt_cmpR op_ne (pv 6) (pv 3) (nomark _)))) (fun _ _ _ _ _ => (pe_tup (pa_cons pe_str (pa_cons (pv 6) pa_nil)))))))
    (pss_cons (ps_if (pt_not (pt_val (pe_has d_law_same (hr.mono (by decide)) pass0 (by exact (pa_cons (pe_has d_law_m_one (hr.mono (by decide)) pass0 (by exact (pa_cons (pv 4) pa_nil))) (pa_cons (pe_tup (pa_cons (pe_callB (cr_srt (α := Str) (by decide) (hu64 hr)) (by rfl) T.b_sorted (by decide +kernel) (pa_cons (pe_op op_cat (pv 0) (pe_lst (pa_cons pe_str pa_nil))) pa_nil)) (pa_cons (pe_callB (cr_srt (α := ((Str) × (Str))) (by decide) (hu64 hr)) (by rfl) T.b_sorted (by decide +kernel) (pa_cons (pv 5) pa_nil)) pa_nil))) pa_nil))))))
      (pss_one (ps_ret pe_bl))
      pss_nil)
    (pss_cons (ps_if (pt_cmpR (op_neDeb d_eq (hr.mono (by decide))) (pv 4) (pe_hasK d_KWwith_answer (hr.mono (by decide)) passL (pk_cons pe_str (pk_cons (pv 3) (pk_cons (pv 2) pk_nil)))) (nomark _))
      (pss_one (ps_ret pe_bl))
      pss_nil)
    (pss_cons (ps_if (pt_cmpR (op_inA (α := ((Str) × (Str))) (by decide) (hu65 hr)) (pe_tup (pa_cons (pv 3) (pa_cons (pv 3) pa_nil))) (pv 1) (by rfl))
      (pss_one (ps_ret (pe_has d_stands (hr.mono (by decide)) pass0 (by exact (pa_cons (pv 4) (pa_cons pe_str (pa_cons (pv 3) (pa_cons pe_str pa_nil))))))))
      pss_nil)
    (pss_one (ps_ret (pe_cmpR (op_inA (α := Str) (by decide) (hu65 hr)) (pv 3) (pe_has d_least_lot (hr.mono (by decide)) pass0 (by exact (pa_cons (pv 4) pa_nil))) (by rfl)))))))))), ?_⟩
  have hx' : x ∈ srt names := srt_mem.mpr hx
  have xok := dm.nms.ok x hx'
  have fok := nm_ok fresh_nm
  have hfr' : freshW ∉ srt names := fun h => hfr (srt_mem.mp h)
  have nl : (srt names).length = names.length := srt_length names
  have pl : (srt pairs).length = pairs.length := srt_length pairs
  refine ⟨_, rfl, _, rfl, m, srt names, srt pairs, .str x, .str freshW, rfl, dm, Or.inl ⟨x, freshW, rfl, hx', rfl, fresh_nm, hfr', by omega, by omega, fun m1 H1 hm1 e1 d1 => ?_⟩⟩
  -- the rows
  refine ⟨_, rfl, _, rfl, _, rfl, ap, pairs, x, rfl, Enc.mono e1 hap, by omega, fun po H2 hpo e2 hAo => ?_⟩
  obtain ⟨ovs, hol, hoE⟩ := Each.ofAt hAo
  obtain ⟨pvs, hpl, hpE⟩ := Each.ofAt hap
  obtain ⟨nvs, hnl, hnE⟩ := Each.ofAt han
  have ol : (srt (objectors pairs x)).length ≤ 12 := by rw [srt_length]; exact Nat.le_trans (objectors_len pairs x) hlp
  refine ⟨po, rfl, ⟨_, SqL.of hol⟩, fun Dd hD => lcL (R := fun _ v l => At H2 v l) (S := (At : Rel Pr)) (f := fun o => if (!decide (o = x)) = true then some (freshW, o) else none) (xs := srt (objectors pairs x)) ⟨fun _ _ _ _ _ h => h⟩ at_stays (fun _ e => SqL.of (e _ _ hol)) hoE hD (by omega) (fun u o H3 e3 hu ho Kn Ky kn ky => ?_) (fun H3 md => ?_)⟩
  · obtain ⟨rfl, ook⟩ := id hu
    refine ⟨rfl, _, rfl, _, rfl, rfl, _, rfl, ?_⟩
    by_cases hb : o = x
    · exact iteND (congrArg V.str hb) (kn _ (Ex.refl _) (by simp [hb]))
    · refine iteNDn (fun h => hb (V.str.inj h)) ⟨_, rfl, (by show 2 ≤ sizeLine; decide), fun t ht => ky _ (freshW, o) _ (Ex.new ht) (by simp [hb]) fun G eG gG => ?_⟩
      exact at_pair (gG t _ ht upd_same) (at_str fok) (at_str ook)
  rw [fm_ifm] at md
  obtain ⟨hn3, e3, rws, hD', hw3⟩ := md
  have hw3' : Each H3 rws (((srt (objectors pairs x)).filter fun o => !decide (o = x)).map fun o => (freshW, o)) := Each.mono del_sub hw3
  have e13 := e2.trans e3
  have e03 := e1.trans e13
  have rl := hw3'.length
  have pvl := hpE.length
  have rl2 : (((srt (objectors pairs x)).filter fun o => !decide (o = x)).map fun o => (freshW, o)).length ≤ 12 := by
    rw [List.length_map]
    exact Nat.le_trans (List.length_filter_le _ _) ol
  have s1 : (100 : Nat) < sizeLine := by decide
  refine ⟨ap, Dd, pvs, rws, rfl, rfl, e03 _ _ hpl, hD', by omega, fun ra hra => ?_⟩
  have e4 : Ex H3 (upd H3 ra (.lst (pvs ++ rws))) := Ex.new hra
  have hra4 : (upd H3 ra (.lst (pvs ++ rws))) ra = some (.lst (pvs ++ rws)) := upd_same
  generalize upd H3 ra (.lst (pvs ++ rws)) = H4 at e4 hra4
  have rowsE : Each H4 (pvs ++ rws) (pairs ++ (((srt (objectors pairs x)).filter fun o => !decide (o = x)).map fun o => (freshW, o))) := (hpE.mono (e03.trans e4)).append (hw3'.mono e4)
  have e14 := e13.trans e4
  have e04 := e03.trans e4
  refine ⟨_, rfl, m1, _, _, rfl, d1.mono e14, fun to H5 hto e5 hAt => ?_⟩
  refine ⟨_, rfl, (by show 1 ≤ sizeLine; decide), fun fl hfl => ?_⟩
  have nvl := hnE.length
  refine ⟨an, fl, nvs, [.str freshW], rfl, rfl, Ex.new hfl _ _ (e5 _ _ (e04 _ _ hnl)), upd_same, (by show nvs.length + 1 ≤ sizeLine; omega), fun nf hnf => ?_⟩
  have e6 : Ex H5 (upd (upd H5 fl (.lst [.str freshW])) nf (.lst (nvs ++ [.str freshW]))) := (Ex.new hfl).trans (Ex.new hnf)
  have hnf6 : (upd (upd H5 fl (.lst [.str freshW])) nf (.lst (nvs ++ [.str freshW]))) nf = some (.lst (nvs ++ [.str freshW])) := upd_same
  have namE : Each (upd (upd H5 fl (.lst [.str freshW])) nf (.lst (nvs ++ [.str freshW]))) (nvs ++ [.str freshW]) (names ++ [freshW]) := (hnE.mono ((e04.trans e5).trans e6)).snoc (at_str fok)
  refine ⟨.ref nf, names ++ [freshW], rfl, at_list hnf6 namE, fun p1 ws1 hp1 hw1 => ⟨_, rfl, .ref ra, _, rfl, at_list (Ex.new hp1 _ _ (e6 _ _ (e5 _ _ hra4))) (rowsE.mono ((e5.trans e6).trans (Ex.new hp1))), fun p2 ws2 hp2 hw2 => ⟨(by show 2 ≤ sizeLine; decide), fun tp htp => ?_⟩⟩⟩
  have eqN : srt (names ++ [freshW]) = srt (srt names ++ [freshW]) := srt_eq (List.Perm.append_right _ (srt_perm names).symm)
  have eqP : srt (pairs ++ (((srt (objectors pairs x)).filter fun o => !decide (o = x)).map fun o => (freshW, o))) = srt (srt pairs ++ ansP (srt pairs) x freshW) := srt_eq (List.Perm.append (srt_perm pairs).symm ((((srt_perm (objectors pairs x)).filter _).map _).trans (ansP_perm (srt_perm pairs).symm x freshW)))
  rw [eqN] at hw1
  rw [eqP] at hw2
  have l1 : (srt (srt names ++ [freshW])).length ≤ 1000 := by rw [srt_length, List.length_append, List.length_singleton]; omega
  have l2 : (srt (srt pairs ++ ansP (srt pairs) x freshW)).length ≤ 1000 := by rw [← eqP, srt_length, List.length_append]; omega
  have e7 : Ex H5 (upd (upd (upd (upd (upd H5 fl (.lst [.str freshW])) nf (.lst (nvs ++ [.str freshW]))) p1 (.lst ws1)) p2 (.lst ws2)) tp (.tup [.ref p1, .ref p2])) := e6.trans ((Ex.new hp1).trans ((Ex.new hp2).trans (Ex.new htp)))
  have h7t : At (upd (upd (upd (upd (upd H5 fl (.lst [.str freshW])) nf (.lst (nvs ++ [.str freshW]))) p1 (.lst ws1)) p2 (.lst ws2)) tp (.tup [.ref p1, .ref p2])) (.ref tp) (srt (srt names ++ [freshW]), srt (srt pairs ++ ansP (srt pairs) x freshW)) :=
    at_pair upd_same (at_list (Ex.new htp _ _ (Ex.new hp2 _ _ upd_same)) (hw1.mono ((Ex.new hp1).trans ((Ex.new hp2).trans (Ex.new htp))))) (at_list (Ex.new htp _ _ upd_same) (hw2.mono ((Ex.new hp2).trans (Ex.new htp))))
  generalize upd (upd (upd (upd (upd H5 fl (.lst [.str freshW])) nf (.lst (nvs ++ [.str freshW]))) p1 (.lst ws1)) p2 (.lst ws2)) tp (.tup [.ref p1, .ref p2]) = H7 at e7 h7t
  refine ⟨.ref to, .ref tp, _, rfl, (one_tr hAt l1 l2).mono e7, one_tr h7t l1 l2, fun H8 e8 => ⟨_, rfl, iteF ?_⟩⟩
  have e58 := e7.trans e8
  have e08 := (e04.trans e5).trans e58
  have e18 := (e14.trans e5).trans e58
  -- told != with_answer(..)
  refine ⟨_, rfl, _, rfl, _, rfl, m, srt names, srt pairs, .str x, .str freshW, rfl, dm.mono e08, Or.inl ⟨x, freshW, rfl, hx', rfl, fresh_nm, hfr', by omega, by omega, fun m2 H9 hm2 e9 d2 => ⟨m1, m2, _, _, rfl, rfl, d1.mono (e18.trans e9), d2, fun H10 e10 => ⟨_, rfl, iteF ?_⟩⟩⟩⟩
  have e110 := (e18.trans e9).trans e10
  have e010 := (e08.trans e9).trans e10
  refine ⟨_, rfl, _, rfl, (by show 2 ≤ sizeLine; decide), fun tt htt => ⟨_, rfl, (x, x), pairs, at_pair upd_same (at_str xok) (at_str xok), Enc.mono (e010.trans (Ex.new htt)) hap, _, rfl, ?_⟩⟩
  have e11 : Ex H10 (upd H10 tt (.tup [.str x, .str x])) := Ex.new htt
  generalize upd H10 tt (.tup [.str x, .str x]) = H11 at e11
  have d11 := d1.mono (e110.trans e11)
  by_cases hs : (x, x) ∈ pairs
  · refine iteD hs ⟨_, rfl, _, rfl, m1, _, _, x, rfl, d11, (by rw [srt_length, List.length_append, List.length_singleton]; omega), srt_mem.mpr (List.mem_append_left _ hx'), fun H12 e12 => ?_⟩
    rw [answer_out (srt_mem.mpr hs)]
    exact q _ ((e010.trans e11).trans e12)
  · refine iteDn hs ⟨_, rfl, _, rfl, m1, _, _, rfl, d11, fun p H12 hp e12 hl => ⟨x, _, at_str xok, (nms_in d11.nms leastL_sub.subset).at_ hl, ?_⟩⟩
    have hin : x ∈ leastL (srt (srt names ++ [freshW])) (srt (srt pairs ++ ansP (srt pairs) x freshW)) := answer_in hx' hfr' (fun p hp => dm.mem p hp) fun h => hs (srt_mem.mp h)
    show Q (.bl (decide (x ∈ leastL (srt (srt names ++ [freshW])) (srt (srt pairs ++ ansP (srt pairs) x freshW))))) _
    rw [decide_eq_true hin]
    exact q _ ((e010.trans e11).trans e12)
end
end K73
set_option maxRecDepth 100000
set_option maxHeartbeats 4000000
namespace K73
open Enc (At enc)
open PySem L2 Evl
def wkv (ps : List Pr) (wt : Pr → Int) : List (List Key × V) := ps.map fun q => (kP q, V.int (wt q))
theorem wkv_none {ps : List Pr} {wt : Pr → Int} {q : Pr} (h : q ∉ ps) : valV (wkv ps wt) (kP q) = none := by
  induction ps with
  | nil => rfl
  | cons p ps ih =>
    have h2 : ¬ kP p = kP q := fun e => h (by rw [kP_inj e]; exact List.mem_cons_self)
    have h3 := valV_neg (p := (kP p, V.int (wt p))) (r := wkv ps wt) (k := kP q) h2
    exact h3.trans (ih fun q => h (List.mem_cons_of_mem _ q))
theorem wkv_at {ps : List Pr} {wt : Pr → Int} {q : Pr} (h : q ∈ ps) : valV (wkv ps wt) (kP q) = some (.int (wt q)) := by
  induction ps with
  | nil => cases h
  | cons p ps ih =>
    by_cases e : p = q
    · subst e
      exact valV_pos (p := (kP p, V.int (wt p))) rfl
    · have h2 : ¬ kP p = kP q := fun z => e (kP_inj z)
      have h3 := valV_neg (p := (kP p, V.int (wt p))) (r := wkv ps wt) (k := kP q) h2
      refine h3.trans (ih ?_)
      rcases List.mem_cons.mp h with z | z
      · exact absurd z.symm e
      · exact z
theorem wkv_wts {H : Hp} {b : Addr} {ps qs : List Pr} {wt : Pr → Int} (h : H b = some (.dT (wkv ps wt))) (p : ps.Perm qs) (hw : ∀ q ∈ qs, 1 ≤ wt q) : Wts H (.ref b) qs wt :=
  ⟨b, _, rfl, h, by unfold wkv; rw [List.length_map]; exact p.length_eq, fun q hq => ⟨wkv_at (p.mem_iff.mpr hq), hw q hq⟩⟩
/-- pairs with new keys, put one after the other -/
theorem fold_put {κ : Type} [DecidableEq κ] : ∀ (kvs acc : List (κ × V)), (kvs.map (·.1)).Nodup → (∀ q ∈ kvs, valV acc q.1 = none) → kvs.foldl (fun acc kv => putK acc kv.1 kv.2) acc = acc ++ kvs
  | [], acc, _, _ => (List.append_nil _).symm
  | p :: kvs, acc, hn, h => by
    obtain ⟨h1, h2⟩ := List.nodup_cons.mp hn
    show kvs.foldl _ (putK acc p.1 p.2) = _
    rw [putK_new _ (h p List.mem_cons_self), fold_put kvs (acc ++ [(p.1, p.2)]) h2 fun q hq => ?_, List.append_assoc]
    · rfl
    · rw [valV_snoc _ _ _ _ (h p List.mem_cons_self), if_neg fun e => h1 (List.mem_map.mpr ⟨q, hq, e⟩)]
      exact h q (List.mem_cons_of_mem _ hq)
/-- a new pair of a pair of texts and a number -/
def TpR (H : Hp) (t : Addr) (z : Pr × Int) : Prop := ∃ b, H t = some (.tup [.ref b, .int z.2]) ∧ H b = some (.tup [.str z.1.1, .str z.1.2])
theorem tp_keep {H H' : Hp} (h : ∀ t xs, H t = some (.tup xs) → H' t = some (.tup xs)) {ts : List Addr} {zs : List (Pr × Int)} (p : Paired (TpR H) ts zs) : Paired (TpR H') ts zs :=
  paired_imp (fun _ _ ⟨b, h1, h2⟩ => ⟨b, h _ _ h1, h _ _ h2⟩) p
theorem tups_off {H H' : Hp} {st cl : Addr} {B : Nat} (S : Stm H st cl B) (e : Ex (off st cl H) H') : ∀ t xs, H t = some (.tup xs) → H' t = some (.tup xs) := fun t xs h => by
  obtain ⟨_, cs, n1, n2, n3, h1, h2, _⟩ := S
  have e1 : t ≠ st := fun q => by rw [q, h1] at h; cases h
  have e2 : t ≠ cl := fun q => by rw [q, h2] at h; cases h
  exact e _ _ (by rw [off_ne e1 e2]; exact h)
theorem tups_upd {H : Hp} {D : Addr} {ys zs : List V} (h : H D = some (.lst ys)) : ∀ t xs, H t = some (.tup xs) → (upd H D (.lst zs)) t = some (.tup xs) := fun t xs ht => by
  rw [upd_ne fun q => by rw [q, h] at ht; cases ht]
  exact ht
theorem paired_app {α β : Type} {F : α → β → Prop} : ∀ {l l' : List α} {m m' : List β}, Paired F l m → Paired F l' m' → Paired F (l ++ l') (m ++ m')
  | _, _, _, _, .nil, h => h
  | _, _, _, _, .cons r t, h => .cons r (paired_app t h)
theorem zip_fun : ∀ (ps : List Pr) (ds : List Int), ps.length = ds.length → ps.Nodup → (∀ d ∈ ds, 1 ≤ d) → ∃ wt : Pr → Int, ps.zip ds = ps.map (fun q => (q, wt q)) ∧ ∀ q, 1 ≤ wt q
  | [], [], _, _, _ => ⟨fun _ => 1, rfl, fun _ => Int.le_refl 1⟩
  | [], _ :: _, h, _, _ => by cases h
  | _ :: _, [], h, _, _ => by cases h
  | p :: ps, d :: ds, h, hn, hd => by
    obtain ⟨h1, h2⟩ := List.nodup_cons.mp hn
    obtain ⟨wt, h3, h4⟩ := zip_fun ps ds (Nat.succ.inj h) h2 fun d hd' => hd d (List.mem_cons_of_mem _ hd')
    refine ⟨fun q => if q = p then d else wt q, ?_, fun q => ?_⟩
    · rw [List.zip_cons_cons, List.map_cons, h3]
      dsimp only
      rw [if_pos rfl]
      congr 1
      refine List.map_congr_left fun q hq => ?_
      rw [if_neg (show ¬ q = p from fun e => h1 (by rw [← e]; exact hq))]
    · dsimp only
      split
      · exact hd d List.mem_cons_self
      · exact h4 q
section
variable {P : Program} {w : World} {K : PySem.W.Frag} {mg : Str → Option Value} {base : Heap} {C : Addr}
abbrev s_law_m_weights : Stmt := top 58
theorem sc_law_m_weights : FnScope ["_law_stream", "_law_pairs", "_law_most", "_law_pair"] ["_law_stream", "_law_pairs"] (defScope s_law_m_weights) := ⟨rfl, rfl, rfl, by decide +kernel, rfl, by decide +kernel, by decide +kernel⟩
def sp_law_m_weights : Sp := fun vs H Q _ => ∃ (st cl : Addr) (B : Nat) (a : Addr) (pairs : List Pr), vs = [.ref st, .ref a] ∧ Stm H st cl B ∧ B + 3000 < 2 ^ 40 ∧ At (off st cl H) (.ref a) pairs ∧ pairs.Nodup ∧ pairs.length ≤ 100 ∧
  ∀ (p : Addr) (ps : List Pr) (wt : Pr → Int) (H' : Hp), H p = none → Ex (off st cl H) H' → Stm H' st cl (B + 3000) → (off st cl H') p = some (.dT (wkv ps wt)) → ps.Perm pairs → (∀ q, 1 ≤ wt q) → Q (.ref p) H'
theorem has_law_m_weights (T : Txt K mg) (d : Def K mg "_law_m_weights" s_law_m_weights) (d_law_pick : Has P w K mg base CX0 "_law_pick" ["_law_stream", "_law_some"] 2 sp_law_pick) (d_law_mixed : Has P w K mg base CX0 "_law_mixed" ["_law_stream", "_law_some"] 2 sp_law_mixed) (d_law_draw : Has P w K mg base CX0 "_law_draw" ["_law_stream", "_law_many"] 1 sp_law_draw)  :
    Has P w K mg base CX0 "_law_m_weights" ["_law_stream", "_law_pairs"] 3 sp_law_m_weights := by
  obtain ⟨f, fd, F, m⟩ := d
  have sc := sc_law_m_weights
  refine ⟨f, fd, F.ok (k := 2) sc (fun vs H Q E h => (by first | (obtain ⟨h, _⟩ := h; rw [h]; rfl) | (obtain ⟨_, h, _⟩ := h; rw [h]; rfl) | (obtain ⟨_, _, h, _⟩ := h; rw [h]; rfl) | (obtain ⟨_, _, _, h, _⟩ := h; rw [h]; rfl) | (obtain ⟨_, _, _, _, h, _⟩ := h; rw [h]; rfl) | (obtain ⟨_, _, _, _, _, h, _⟩ := h; rw [h]; rfl) | (obtain ⟨_, _, _, _, _, _, h, _⟩ := h; rw [h]; rfl) | (obtain ⟨_, _, _, _, _, _, _, h, _⟩ := h; rw [h]; rfl) | (obtain ⟨_, _, _, _, _, _, _, _, h, _⟩ := h; rw [h]; rfl) | (obtain ⟨_, _, _, _, _, _, _, _, _, h, _⟩ := h; rw [h]; rfl) | (obtain ⟨_, _, _, _, _, _, _, _, _, _, h, _⟩ := h; rw [h]; rfl))) (fun cdv A outer s H vs Q E hr h => ?_), m, F.kp, F.binds fun _ _ _ _ _ _ us hl => match us, hl with | [_, _], _ => rfl⟩
  obtain ⟨st, cl, B, a, pairs, rfl, S, hB, hat, hnd, hlp, q⟩ := h
  refine ⟨_, ((pss_cons (ps_set (i := 2) sc.nd rfl (by first | exact Or.inl rfl | exact Or.inr rfl) (pe_has d_law_pick (hr.mono (by decide)) pass0 (by exact (pa_cons (pv 0) (pa_cons (pe_lst (pa_cons pe_int (pa_cons pe_int (pa_cons pe_int (pa_cons pe_int pa_nil))))) pa_nil)))))
    (pss_one (ps_ret (pe_callTy (call_dictTK K rfl rfl (hu64 hr)) (by rfl) T.b_dict (by decide +kernel) (pa_cons (pe_lc (own := [("_law_pair", 3)]) rfl sc.nd (pi_listK K rfl (pe_has d_law_mixed (hr.mono (by decide)) pass0 (by exact (pa_cons (pv 0) (pa_cons (pv 1) pa_nil))))) (blkOk_by (own := [("_law_pair", 3)]) (N := ["_law_stream", "_law_pairs", "_law_most", "_law_pair"]) (sc := defScope s_law_m_weights) (by decide +kernel)) (fun _ _ _ _ _ => (pg_name (i := 3) sc.nd rfl (by first | exact Or.inl rfl | exact Or.inr rfl))) (fun _ _ _ _ _ => pts_nil) (fun _ _ _ _ _ => (pe_tup (pa_cons (pv 3) (pa_cons (pe_op op_add pe_int (pe_has d_law_draw (hr.mono (by decide)) pass0 (by exact (pa_cons (pv 0) (pa_cons (pv 2) pa_nil))))) pa_nil))))) pa_nil)))))), ?_⟩
  obtain ⟨pvs, ha, hE⟩ := Each.ofAt hat
  have pvl := hE.length
  refine ⟨_, rfl, (by show 4 ≤ sizeLine; decide), fun p0 hp0 => ?_⟩
  have S0 := S.mono (Ex.new (o := .lst [.int 1, .int 2, .int 5, .int 100]) hp0)
  obtain ⟨x0, h0⟩ := S.new (o := .lst [.int 1, .int 2, .int 5, .int 100]) hp0
  refine ⟨st, cl, B, p0, _, rfl, S0, by omega, h0, by simp, by show 4 ≤ 100000; omega, fun H1 mv e1 S1 hm => ?_⟩
  obtain ⟨most, rfl, hm1, hm2⟩ : ∃ most : Int, mv = .int most ∧ 0 < most ∧ most < 2 ^ 29 := by
    simp only [List.mem_cons, List.not_mem_nil, or_false] at hm
    rcases hm with rfl | rfl | rfl | rfl
    · exact ⟨1, rfl, by decide, by decide⟩
    · exact ⟨2, rfl, by decide, by decide⟩
    · exact ⟨5, rfl, by decide, by decide⟩
    · exact ⟨100, rfl, by decide, by decide⟩
  have e01 : Ex (off st cl H) (off st cl H1) := x0.trans (off_up e1)
  refine ⟨_, rfl, _, rfl, st, cl, B + 1, a, pvs, rfl, S1, by omega, e01 _ _ ha, by omega, fun p2 ys H2 hp2 e2 S2 hy hpm => ?_⟩
  obtain ⟨ps, hEy, hps⟩ := paired_perm hpm (hE.mono e01)
  have e12 : Ex (off st cl H1) (off st cl H2) := off_up e2
  have hE2 : Each (off st cl H2) ys ps := Paired.stays at_stays e12 hEy
  have hnp : ps.Nodup := hps.nodup_iff.mpr hnd
  have ln : ps.length = pairs.length := hps.length_eq
  have yl := hE2.length
  refine ⟨p2, rfl, ⟨_, SqL.of (off_sub _ _ hy)⟩, fun Dd hD => ?_⟩
  have nD := S2.ne hD
  have oD : (off st cl H2) Dd = none := by rw [off_ne nD.1 nD.2]; exact hD
  have s1 : (1001 : Nat) < sizeLine := by decide
  refine lcW ps.length (fun i H' => Ex (off st cl H2) H' ∧ Stm H' st cl (B + 1 + 1000 + i) ∧ ∃ (ts : List Addr) (ds : List Int), H' Dd = some (.lst (ts.map V.ref)) ∧ ds.length = i ∧ (∀ d ∈ ds, 1 ≤ d) ∧ Paired (TpR H') ts ((ps.take i).zip ds)) ⟨off_sub.trans (Ex.new hD), S2.mono (Ex.new hD), [], [], upd_same, rfl, (fun d hd => by cases hd), .nil⟩ (fun i H' hi ⟨e, _⟩ => ⟨_, ys[i], SqL.of (e _ _ hy), List.getElem?_eq_getElem (by omega)⟩) (fun H' ⟨e, _⟩ => ⟨_, SqL.of (e _ _ hy), by omega⟩) ?_ ?_
  · rintro i H' x H3 hi ⟨e3, S3, ts, ds, hacc, hdl, hd1, hP⟩ ⟨rfl, hx⟩
    obtain ⟨pr, hpr, hat⟩ := Paired.get hE2 (hx _ (SqL.of (e3 _ _ hy)))
    obtain ⟨b, rfl, hb⟩ := pr_ref hat
    have hb3 := e3 _ _ hb
    refine ⟨rfl, _, rfl, _, rfl, _, rfl, st, cl, _, most, rfl, S3, by omega, hm1, hm2, fun H4 r e4 S4 r0 r1 => ⟨_, _, rfl, rfl, (by show 2 ≤ sizeLine; decide), fun t ht => ?_⟩⟩
    have tk := tups_off S3 e4
    have hacc4 := e4 _ _ (show (off st cl H3) Dd = some (.lst (ts.map V.ref)) by rw [off_ne nD.1 nD.2]; exact hacc)
    have tl : ts.length = i := by have := hP.length; rw [List.length_zip, List.length_take] at this; omega
    have tD : t ≠ Dd := fun e => by rw [e, hacc4] at ht; cases ht
    have hacc5 := Ex.new (o := .tup [.ref b, .int (1 + r)]) ht _ _ hacc4
    refine ⟨ts.map V.ref, hacc5, by rw [List.length_map]; omega, Ex.mut (((off_up e3).trans e4).trans (Ex.new ht)) oD, ?_, ts ++ [t], ds ++ [1 + r], ?_, by rw [List.length_append, List.length_singleton]; omega, fun d hd => ?_, ?_⟩
    · obtain ⟨h6, cs, m1, m2, m3, h7, h8, h9⟩ := S4.mono (Ex.new (o := .tup [.ref b, .int (1 + r)]) ht)
      exact ⟨h6, cs, m1, m2, m3, by rw [upd_ne nD.1.symm]; exact h7, by rw [upd_ne nD.2.symm]; exact h8, h9⟩
    · rw [upd_same, List.map_append]
      rfl
    · rcases List.mem_append.mp hd with g | g
      · exact hd1 d g
      · rw [List.mem_singleton.mp g]; omega
    · rw [take_more hpr, List.zip_append (by rw [List.length_take]; omega)]
      refine paired_app (tp_keep (tups_upd hacc5) (tp_keep (fun t xs h => Ex.new ht _ _ h) (tp_keep tk hP))) (.cons ⟨b, ?_, ?_⟩ .nil)
      · rw [upd_ne tD, upd_same]
      · exact tups_upd hacc5 _ _ (Ex.new ht _ _ (tk _ _ hb3))
  · rintro H' ⟨e3, S3, ts, ds, hacc, hdl, hd1, hP⟩
    rw [List.take_length] at hP
    obtain ⟨wt, hz, hw⟩ := zip_fun ps ds hdl.symm hnp hd1
    rw [hz] at hP
    have tl := hP.length
    rw [List.length_map] at tl
    have hP2 : Paired (fun (p : Addr) (kv : List Key × V) => ∃ b, SqT K H' p [.ref b, kv.2] ∧ H' b = some (.tup (kv.1.map kV))) ts (wkv ps wt) := by
      unfold wkv
      have hh : ∀ (ts : List Addr) (qs : List Pr), Paired (TpR H') ts (qs.map fun q => (q, wt q)) → Paired (fun (p : Addr) (kv : List Key × V) => ∃ b, SqT K H' p [.ref b, kv.2] ∧ H' b = some (.tup (kv.1.map kV))) ts (qs.map fun q => (kP q, V.int (wt q))) := by
        intro ts qs
        induction qs generalizing ts with
        | nil => intro h; cases h; exact .nil
        | cons q qs ih =>
          intro h
          cases h with
          | cons r t => exact .cons (let ⟨b, h1, h2⟩ := r; ⟨b, SqT.of h1, h2⟩) (ih _ t)
      exact hh ts ps hP
    refine ⟨Dd, ts, wkv ps wt, rfl, SqL.of hacc, hP2, by omega, fun p hp => ?_⟩
    have hf : (wkv ps wt).foldl (fun acc kv => putK acc kv.1 kv.2) [] = wkv ps wt := by
      rw [fold_put (wkv ps wt) [] ?_ (fun q hq => rfl)]
      · rfl
      · unfold wkv
        rw [List.map_map]
        exact map_nodup (fun a b e => kP_inj e) hnp
    rw [hf]
    have S4 := S3.mono (Ex.new (o := .dT (wkv ps wt)) hp)
    have np := S3.ne hp
    have eH : Ex (off st cl H) H' := e01.trans (e12.trans e3)
    refine q p ps wt _ ?_ (eH.trans (Ex.new hp)) (S4.le (by omega)) (S3.new hp).2 hps hw
    have := fresh_back eH hp
    rw [off_ne np.1 np.2] at this
    exact this
end
end K73
set_option maxRecDepth 100000
set_option maxHeartbeats 4000000
namespace K73
open Enc (At enc)
open PySem L2 Evl
theorem putK_mem {κ : Type} [DecidableEq κ] {kvs : List (κ × V)} {k : κ} {v : V} : ∀ q ∈ putK kvs k v, q ∈ kvs ∨ (q.1 = k ∧ q.2 = v) := by
  intro q hq
  unfold putK at hq
  split at hq
  · obtain ⟨p, hp, e⟩ := List.mem_map.mp hq
    by_cases h : p.1 = k
    · rw [if_pos h] at e
      exact .inr ⟨by rw [← e]; exact h, by rw [← e]⟩
    · rw [if_neg h] at e
      exact .inl (by rw [← e]; exact hp)
  · rcases List.mem_append.mp hq with g | g
    · exact .inl g
    · rw [List.mem_singleton.mp g]
      exact .inr ⟨rfl, rfl⟩
theorem fold_mem {κ : Type} [DecidableEq κ] : ∀ (kvs acc : List (κ × V)), ∀ q ∈ kvs.foldl (fun acc kv => putK acc kv.1 kv.2) acc, q ∈ acc ∨ q ∈ kvs
  | [], acc, q, h => .inl h
  | p :: kvs, acc, q, h => by
    rcases fold_mem kvs (putK acc p.1 p.2) q h with g | g
    · rcases putK_mem q g with z | z
      · exact .inl z
      · exact .inr (List.mem_cons.mpr (.inl (Prod.ext z.1 z.2)))
    · exact .inr (List.mem_cons_of_mem _ g)
theorem fold_len {κ : Type} [DecidableEq κ] : ∀ (kvs acc : List (κ × V)), (kvs.foldl (fun acc kv => putK acc kv.1 kv.2) acc).length ≤ acc.length + kvs.length
  | [], acc => Nat.le_refl _
  | p :: kvs, acc => by
    have h1 := fold_len kvs (putK acc p.1 p.2)
    have h2 := length_putK acc p.1 p.2
    show (kvs.foldl _ (putK acc p.1 p.2)).length ≤ _
    rw [List.length_cons]
    omega
theorem valV_mem {κ : Type} [DecidableEq κ] {kvs : List (κ × V)} {k : κ} {v : V} (h : valV kvs k = some v) : (k, v) ∈ kvs := by
  induction kvs with
  | nil => cases h
  | cons p kvs ih =>
    by_cases e : p.1 = k
    · rw [valV_pos e] at h
      have := Option.some.inj h
      rw [← this, ← e]
      exact List.mem_cons_self
    · rw [valV_neg e] at h
      exact List.mem_cons_of_mem _ (ih h)
/-- a thing that might be weights, and its tree -/
def Odd (pairs : List Pr) (H : Hp) (v : V) : Prop := ((∃ wt, Wts H v pairs wt) ∨ BadW H v pairs) ∧ ∃ t, TrAt H 4 v t
theorem Odd.mono {pairs : List Pr} {H H' : Hp} {v : V} (e : Ex H H') (h : Odd pairs H v) : Odd pairs H' v :=
  ⟨h.1.imp (fun ⟨wt, w⟩ => ⟨wt, w.mono e⟩) (fun b => b.mono e), let ⟨t, ht⟩ := h.2; ⟨t, ht.mono e⟩⟩
theorem odd_kind {pairs : List Pr} {H : Hp} {v : V} {t : Tr} (h : TrAt H 4 v t) (hk : t.kn ≠ .dct) : Odd pairs H v := ⟨.inr (.kind h.knd hk), t, h⟩
/-- values that are numbers or the odd thing -/
def ValOk (H : Hp) (v : V) : Prop := ∃ t, TrAt H 1 v t
theorem vals_tr {H : Hp} : ∀ vs : List V, (∀ v ∈ vs, ValOk H v) → ∃ ts, Paired (TrAt H 1) vs ts
  | [], _ => ⟨[], .nil⟩
  | v :: vs, h => by
    obtain ⟨t, ht⟩ := h v List.mem_cons_self
    obtain ⟨ts, hts⟩ := vals_tr vs fun u hu => h u (List.mem_cons_of_mem _ hu)
    exact ⟨t :: ts, .cons ht hts⟩
def ofV : Option V → Int
  | some (.int i) => i
  | _ => 0
theorem odd_dT {pairs : List Pr} {H : Hp} {b : Addr} {kvs : List (List Key × V)} (h : H b = some (.dT kvs)) (hl : kvs.length ≤ 10000) (hk : ∀ q ∈ kvs, q.1.length ≤ 10000 ∧ ValOk H q.2) : Odd pairs H (.ref b) := by
  obtain ⟨ts, hts⟩ := vals_tr (kvs.map (·.2)) fun v hv => by
    obtain ⟨q, hq, rfl⟩ := List.mem_map.mp hv
    exact (hk q hq).2
  refine ⟨?_, _, TrAt.dT (n := 0) h hl (fun q hq => (hk q hq).1) hts⟩
  by_cases hlen : kvs.length = pairs.length
  · by_cases hall : ∀ p ∈ pairs, ∃ i : Int, valV kvs (kP p) = some (.int i) ∧ 1 ≤ i
    · refine .inl ⟨fun p => ofV (valV kvs (kP p)), b, kvs, rfl, h, hlen, fun p hp => ?_⟩
      obtain ⟨i, h1, h2⟩ := hall p hp
      show valV kvs (kP p) = some (.int (ofV (valV kvs (kP p)))) ∧ 1 ≤ ofV (valV kvs (kP p))
      rw [h1]
      exact ⟨rfl, h2⟩
    · refine .inr (.inT rfl h hlen (fun p hp u hu => ?_) ?_)
      · obtain ⟨t, ht⟩ := (hk _ (valV_mem hu)).2
        exact ⟨_, ht.knd⟩
      · have hex : ∃ p, p ∈ pairs ∧ ¬ ∃ i : Int, valV kvs (kP p) = some (.int i) ∧ 1 ≤ i := by
          exact Classical.byContradiction fun hc => hall fun p hp => Classical.byContradiction fun h2 => hc ⟨p, hp, h2⟩
        obtain ⟨p, hp, hn⟩ := hex
        refine ⟨p, hp, fun u hu => ?_⟩
        cases u with
        | int i =>
          cases hd : decide (1 ≤ i) with
          | false => exact hd
          | true => exact absurd ⟨i, hu, of_decide_eq_true hd⟩ hn
        | _ => rfl
  · exact .inr (.lenT rfl h hlen)
theorem odd_dK {pairs : List Pr} {H : Hp} {b : Addr} {kvs : List (Key × V)} (h : H b = some (.dK kvs)) (hl : kvs.length ≤ 10000) (hk : ∀ q ∈ kvs, ValOk H q.2) (hne : pairs ≠ []) : Odd pairs H (.ref b) := by
  obtain ⟨ts, hts⟩ := vals_tr (kvs.map (·.2)) fun v hv => by
    obtain ⟨q, hq, rfl⟩ := List.mem_map.mp hv
    exact hk q hq
  refine ⟨.inr ?_, _, TrAt.dK (n := 1) h hl hts⟩
  by_cases hlen : kvs.length = pairs.length
  · exact .inK rfl h hlen hne
  · exact .lenK rfl h hlen
end K73
set_option maxRecDepth 100000
set_option maxHeartbeats 4000000
namespace K73
open Enc (At enc)
open PySem L2 Evl
/-- the heap without the stream and without the list at sm -/
def off3 (st cl sm : Addr) (H : Hp) : Hp := del (off st cl H) sm
theorem off3_ne {st cl sm b : Addr} {H : Hp} (h1 : b ≠ st) (h2 : b ≠ cl) (h3 : b ≠ sm) : off3 st cl sm H b = H b := by
  unfold off3
  rw [del_ne h3, off_ne h1 h2]
theorem off3_mono {st cl sm : Addr} {H H' : Hp} (e : Ex H H') : Ex (off3 st cl sm H) (off3 st cl sm H') := del_ex (off_mono e)
theorem off3_sub {st cl sm : Addr} {H : Hp} : Ex (off3 st cl sm H) (off st cl H) := del_sub
theorem off3_upd {st cl sm : Addr} {H : Hp} {o : HO} : off3 st cl sm (upd H sm o) = off3 st cl sm H := by
  funext b
  unfold off3
  by_cases hb : b = sm
  · rw [hb, del_same, del_same]
  · rw [del_ne hb, del_ne hb]
    unfold off del
    split
    · rfl
    · split
      · rfl
      · exact upd_ne hb
/-- a part of the heap that has all tuples and all that is new -/
structure View (F : Hp → Hp) (H : Hp) : Prop where
  new : ∀ (p : Addr) (H' : Hp) (o : HO), H p = none → H' p = some o → F H' p = some o
  tup : ∀ (t : Addr) (xs : List V), H t = some (.tup xs) → F H t = some (.tup xs)
  mono : ∀ H', Ex H H' → Ex (F H) (F H')
theorem view_off {st cl : Addr} {B : Nat} {H : Hp} (S : Stm H st cl B) : View (off st cl) H := by
  refine ⟨fun p H' o h1 h2 => by rw [off_ne (S.ne h1).1 (S.ne h1).2]; exact h2, fun t xs h => ?_, fun H' e => off_mono e⟩
  obtain ⟨_, cs, n1, n2, n3, h1, h2, _⟩ := S
  rw [off_ne (fun e => by rw [e, h1] at h; cases h) (fun e => by rw [e, h2] at h; cases h)]
  exact h
theorem view_off3 {st cl sm : Addr} {B : Nat} {H : Hp} {ys : List V} (S : Stm H st cl B) (hs : H sm = some (.lst ys)) : View (off3 st cl sm) H := by
  refine ⟨fun p H' o h1 h2 => by rw [off3_ne (S.ne h1).1 (S.ne h1).2 (fun e => by rw [e, hs] at h1; cases h1)]; exact h2, fun t xs h => ?_, fun H' e => off3_mono e⟩
  obtain ⟨_, cs, n1, n2, n3, h1, h2, _⟩ := S
  rw [off3_ne (fun e => by rw [e, h1] at h; cases h) (fun e => by rw [e, h2] at h; cases h) (fun e => by rw [e, hs] at h; cases h)]
  exact h
/-- pairs of tuple keys and values at the places ts -/
def TItems (H : Hp) : List Addr → List (List Key × V) → Prop := Paired fun (t : Addr) (q : List Key × V) => ∃ b, H t = some (.tup [.ref b, q.2]) ∧ H b = some (.tup (q.1.map kV))
theorem TItems.mono {H H' : Hp} (e : Ex H H') {ts : List Addr} {kvs : List (List Key × V)} (h : TItems H ts kvs) : TItems H' ts kvs := paired_imp (fun _ _ ⟨b, h1, h2⟩ => ⟨b, e _ _ h1, e _ _ h2⟩) h
theorem paired_drop {α β : Type} {F : α → β → Prop} : ∀ (n : Nat) {l : List α} {m : List β}, Paired F l m → Paired F (l.drop n) (m.drop n)
  | 0, _, _, h => h
  | _ + 1, _, _, .nil => .nil
  | n + 1, _, _, .cons _ t => paired_drop n t
/-- dict(..) of pairs: it might be weights -/
theorem dict_odd {K : PySem.W.Frag} {F : Hp → Hp} {H : Hp} {a : Addr} {ts : List Addr} {kvs : List (List Key × V)} {pairs : List Pr} {Q : VK} (V0 : View F H) (ha : H a = some (.lst (ts.map V.ref))) (hp : TItems H ts kvs) (hk : ∀ q ∈ kvs, q.1.length ≤ 10000 ∧ ValOk (F H) q.2) (hl : ts.length ≤ 1000)
    (q : ∀ p o, H p = none → Odd pairs (F (upd H p o)) (.ref p) → Q (.ref p) (upd H p o)) : rDictT K [.ref a] H Q := by
  refine ⟨a, ts, kvs, rfl, SqL.of ha, paired_imp (fun _ _ ⟨b, h1, h2⟩ => ⟨b, SqT.of h1, h2⟩) hp, by omega, fun p hp0 => q p _ hp0 ?_⟩
  have e := V0.mono _ (Ex.new (o := .dT (kvs.foldl (fun acc kv => putK acc kv.1 kv.2) [])) hp0)
  have tl := hp.length
  refine odd_dT (V0.new p _ _ hp0 upd_same) ?_ fun z hz => ?_
  · have := fold_len kvs []
    have h0 : ([] : List (List Key × V)).length = 0 := rfl
    omega
  · rcases fold_mem kvs [] z hz with g | g
    · cases g
    · obtain ⟨h1, t, h2⟩ := hk z g
      exact ⟨h1, t, h2.mono e⟩
/-- the items of a dict of weights -/
theorem items_go {F : Hp → Hp} {H : Hp} {wb : Addr} {kvs : List (List Key × V)} {Q : VK} (hw : H wb = some (.dT kvs)) (q : ∀ (H' : Hp) (p : Addr) (ts : List Addr), Ex H H' → H p = none → H' p = some (.lst (ts.map V.ref)) → TItems H' ts kvs → Q (.ref p) H') : rItemsX (.ref wb) H Q :=
  ⟨wb, rfl, .inr ⟨kvs, hw, fun H' p ts e hp _ _ hl hP => q H' p ts e hp hl hP⟩⟩
theorem wkv_ok {H : Hp} {ps : List Pr} {wt : Pr → Int} : ∀ q ∈ wkv ps wt, q.1.length ≤ 10000 ∧ ValOk H q.2 := fun q hq => by
  obtain ⟨p, _, rfl⟩ := List.mem_map.mp hq
  exact ⟨by show 2 ≤ 10000; omega, _, .int 1 _⟩
/-- the list of the items might be weights: it is none -/
theorem items_odd {F : Hp → Hp} {H H' : Hp} {p : Addr} {ts : List Addr} {ps pairs : List Pr} {wt : Pr → Int} (V0 : View F H) (V1 : View F H') (hp : H p = none) (hl : H' p = some (.lst (ts.map V.ref))) (hP : TItems H' ts (wkv ps wt)) (hz : ts.length ≤ 1000) : Odd pairs (F H') (.ref p) := by
  have hh : ∀ (ts : List Addr) (kvs : List (List Key × V)), TItems H' ts kvs → (∀ q ∈ kvs, ∃ (r : Pr) (i : Int), q = (kP r, V.int i)) → ∃ us, Paired (TrAt (F H') 3) (ts.map V.ref) us := by
    intro ts kvs h
    induction h with
    | nil => intro _; exact ⟨[], .nil⟩
    | cons r t ih =>
      intro hq
      obtain ⟨us, hus⟩ := ih fun q hq' => hq q (List.mem_cons_of_mem _ hq')
      obtain ⟨b, h1, h2⟩ := r
      obtain ⟨p, i, rfl⟩ := hq _ List.mem_cons_self
      exact ⟨_, .cons (.tup (V1.tup _ _ h1) (by show 2 ≤ 10000; omega) (.cons (.tup (n := 1) (V1.tup _ _ h2) (by show 2 ≤ 10000; omega) (.cons (.str 1 p.1) (.cons (.str 1 p.2) .nil))) (.cons (.int 2 i) .nil))) hus⟩
  obtain ⟨us, hus⟩ := hh ts _ hP fun q hq => by
    obtain ⟨p, _, rfl⟩ := List.mem_map.mp hq
    exact ⟨p, _, rfl⟩
  exact odd_kind (t := .lst us) (.lst (V0.new p _ _ hp hl) (by rw [List.length_map]; omega) hus) (fun e => by cases e)
/-- the list at sm of what might be weights, and all that is needed beside it -/
structure OSt (st cl sm a wb : Addr) (B : Nat) (G : Hp) (pairs ps : List Pr) (wt : Pr → Int) (pvs : List V) (odd : V) (to : Tr) (H : Hp) (vs : List V) : Prop where
  y : Ex G H
  S : Stm H st cl B
  hs : H sm = some (.lst vs)
  od : ∀ v ∈ vs, Odd pairs (off3 st cl sm H) v
  non : V.non ∈ vs
  ha : (off3 st cl sm H) a = some (.lst pvs)
  hw : (off3 st cl sm H) wb = some (.dT (wkv ps wt))
  hE : Each (off3 st cl sm H) pvs pairs
  ht : TrAt (off3 st cl sm H) 1 odd to
section
variable {st cl sm a wb : Addr} {B : Nat} {G : Hp} {pairs ps : List Pr} {wt : Pr → Int} {pvs : List V} {odd : V} {to : Tr} {H H' : Hp} {vs ws : List V}
theorem OSt.mono (o : OSt st cl sm a wb B G pairs ps wt pvs odd to H vs) (e : Ex H H') : OSt st cl sm a wb B G pairs ps wt pvs odd to H' vs :=
  have e3 := off3_mono (st := st) (cl := cl) (sm := sm) e
  ⟨o.y.trans e, o.S.mono e, e _ _ o.hs, fun v hv => (o.od v hv).mono e3, o.non, e3 _ _ o.ha, e3 _ _ o.hw, o.hE.mono e3, o.ht.mono e3⟩
theorem OSt.put (o : OSt st cl sm a wb B G pairs ps wt pvs odd to H vs) (hn : sm ≠ st ∧ sm ≠ cl) (hG : G sm = none) (h : ∀ v ∈ ws, Odd pairs (off3 st cl sm H) v) : OSt st cl sm a wb B G pairs ps wt pvs odd to (upd H sm (.lst (vs ++ ws))) (vs ++ ws) := by
  have e3 : off3 st cl sm (upd H sm (.lst (vs ++ ws))) = off3 st cl sm H := off3_upd
  refine ⟨Ex.mut o.y hG, ?_, upd_same, ?_, List.mem_append_left _ o.non, by rw [e3]; exact o.ha, by rw [e3]; exact o.hw, by rw [e3]; exact o.hE, by rw [e3]; exact o.ht⟩
  · obtain ⟨h6, cs, m1, m2, m3, h7, h8, h9⟩ := o.S
    exact ⟨h6, cs, m1, m2, m3, by rw [upd_ne hn.1.symm]; exact h7, by rw [upd_ne hn.2.symm]; exact h8, h9⟩
  · rw [e3]
    intro v hv
    rcases List.mem_append.mp hv with g | g
    · exact o.od v g
    · exact h v g
theorem OSt.view (o : OSt st cl sm a wb B G pairs ps wt pvs odd to H vs) : View (off3 st cl sm) H := view_off3 o.S o.hs
theorem OSt.sub : Ex (off3 st cl sm H) H := off3_sub.trans off_sub
theorem OSt.wd (o : OSt st cl sm a wb B G pairs ps wt pvs odd to H vs) : H wb = some (.dT (wkv ps wt)) := OSt.sub _ _ o.hw
theorem OSt.ad (o : OSt st cl sm a wb B G pairs ps wt pvs odd to H vs) : H a = some (.lst pvs) := OSt.sub _ _ o.ha
theorem OSt.at_ (o : OSt st cl sm a wb B G pairs ps wt pvs odd to H vs) : At H (.ref a) pairs := at_list o.ad (o.hE.mono OSt.sub)
end
theorem atI_last {xs : List V} {v : V} (h : xs[xs.length - 1]? = some v) : atI xs (-1) = some v := by
  have h1 : xs.length - 1 < xs.length := (List.getElem?_eq_some_iff.mp h).1
  have e : ixN xs.length (-1) = some (xs.length - 1) := by
    unfold ixN
    rw [if_neg (by omega), if_pos (by omega)]
    congr 1
    omega
  unfold atI
  rw [e]
  exact h
/-- a new pair of a pair of texts and a value -/
def BtR : Rel (Pr × V) := fun G v z => ∃ t b, v = .ref t ∧ G t = some (.tup [.ref b, z.2]) ∧ G b = some (.tup [.str z.1.1, .str z.1.2])
theorem bt_stays : Stays BtR := ⟨fun _ _ _ _ e ⟨t, b, h1, h2, h3⟩ => ⟨t, b, h1, e _ _ h2, e _ _ h3⟩⟩
theorem bt_items {H : Hp} : ∀ {ws : List V} {zs : List (Pr × V)}, Paired (BtR H) ws zs → ∃ ts : List Addr, ws = ts.map V.ref ∧ TItems H ts (zs.map fun z => (kP z.1, z.2))
  | _, _, .nil => ⟨[], rfl, .nil⟩
  | _, _, .cons ⟨t, b, h1, h2, h3⟩ r => by
    obtain ⟨ts, e, hp⟩ := bt_items r
    exact ⟨t :: ts, by rw [List.map_cons, ← e, h1], .cons ⟨b, h2, h3⟩ hp⟩
/-- a new pair of a text and 1 -/
def OnR : Rel Str := fun G v x => ∃ t, v = .ref t ∧ G t = some (.tup [.str x, .int 1])
theorem on_stays : Stays OnR := ⟨fun _ _ _ _ e ⟨t, h1, h2⟩ => ⟨t, h1, e _ _ h2⟩⟩
theorem on_items {K : PySem.W.Frag} {H : Hp} : ∀ {ws : List V} {zs : List Str}, Paired (OnR H) ws zs → ∃ ts : List Addr, ws = ts.map V.ref ∧ Paired (fun (p : Addr) (kv : Key × V) => SqT K H p [kV kv.1, kv.2]) ts (zs.map fun x => ((Sum.inr x : Key), V.int 1))
  | _, _, .nil => ⟨[], rfl, .nil⟩
  | _, _, .cons ⟨t, h1, h2⟩ r => by
    obtain ⟨ts, e, hp⟩ := on_items r
    exact ⟨t :: ts, by rw [List.map_cons, ← e, h1], .cons (SqT.of h2) hp⟩
end K73
set_option maxRecDepth 100000
set_option maxHeartbeats 4000000
namespace K73
open Enc (At enc)
open PySem L2 Evl
section
variable {P : Program} {w : World} {K : PySem.W.Frag} {mg : Str → Option Value} {base : Heap} {C : Addr}
abbrev s_law_m_odd_weights : Stmt := top 60
theorem sc_law_m_odd_weights : FnScope ["_law_stream", "_law_pairs", "_law_weights", "_law_odd", "_law_some", "_law_bent", "_law_pair", "_law_thing"] ["_law_stream", "_law_pairs", "_law_weights"] (defScope s_law_m_odd_weights) := ⟨rfl, rfl, rfl, by decide +kernel, rfl, by decide +kernel, by decide +kernel⟩
def sp_law_m_odd_weights : Sp := fun vs H Q _ => ∃ (st cl : Addr) (B : Nat) (a wb : Addr) (pairs ps : List Pr) (wt : Pr → Int), vs = [.ref st, .ref a, .ref wb] ∧ Stm H st cl B ∧ B + 10 < 2 ^ 40 ∧ At (off st cl H) (.ref a) pairs ∧ pairs.length ≤ 100 ∧ (off st cl H) wb = some (.dT (wkv ps wt)) ∧ ps.Perm pairs ∧
  ∀ (v : V) (t : Tr) (H' : Hp), Ex (off st cl H) H' → Stm H' st cl (B + 2) → BadW (off st cl H') v pairs → TrAt (off st cl H') 4 v t → Q v H'
theorem has_law_m_odd_weights (T : Txt K mg) (d : Def K mg "_law_m_odd_weights" s_law_m_odd_weights) (d_law_pick : Has P w K mg base CX0 "_law_pick" ["_law_stream", "_law_some"] 2 sp_law_pick) (d_law_m_are_weights : Has P w K mg base CX0 "_law_m_are_weights" ["_law_pairs", "_law_thing"] 2 sp_law_m_are_weights)  :
    Has P w K mg base CX0 "_law_m_odd_weights" ["_law_stream", "_law_pairs", "_law_weights"] 3 sp_law_m_odd_weights := by
  obtain ⟨f, fd, F, m⟩ := d
  have sc := sc_law_m_odd_weights
  refine ⟨f, fd, F.ok (k := 2) sc (fun vs H Q E h => (by first | (obtain ⟨h, _⟩ := h; rw [h]; rfl) | (obtain ⟨_, h, _⟩ := h; rw [h]; rfl) | (obtain ⟨_, _, h, _⟩ := h; rw [h]; rfl) | (obtain ⟨_, _, _, h, _⟩ := h; rw [h]; rfl) | (obtain ⟨_, _, _, _, h, _⟩ := h; rw [h]; rfl) | (obtain ⟨_, _, _, _, _, h, _⟩ := h; rw [h]; rfl) | (obtain ⟨_, _, _, _, _, _, h, _⟩ := h; rw [h]; rfl) | (obtain ⟨_, _, _, _, _, _, _, h, _⟩ := h; rw [h]; rfl) | (obtain ⟨_, _, _, _, _, _, _, _, h, _⟩ := h; rw [h]; rfl) | (obtain ⟨_, _, _, _, _, _, _, _, _, h, _⟩ := h; rw [h]; rfl) | (obtain ⟨_, _, _, _, _, _, _, _, _, _, h, _⟩ := h; rw [h]; rfl))) (fun cdv A outer s H vs Q E hr h => ?_), m, F.kp, F.binds fun _ _ _ _ _ _ us hl => match us, hl with | [_, _, _], _ => rfl⟩
  obtain ⟨st, cl, B, a, wb, pairs, ps, wt, rfl, S, hB, hat, hlp, hwb, hpm, q⟩ := h
  refine ⟨_, ((pss_cons (ps_set (i := 3) sc.nd rfl (by first | exact Or.inl rfl | exact Or.inr rfl) (pe_has d_law_pick (hr.mono (by decide)) pass0 (by exact (pa_cons (pv 0) (pa_cons (pe_lst (pa_cons pe_int (pa_cons (pe_un un_neg pe_int) (pa_cons pe_bl (pa_cons pe_non (pa_cons pe_str (pa_cons (pe_tup (pa_cons pe_int pa_nil)) (pa_cons (pe_lst (pa_cons pe_int pa_nil)) pa_nil)))))))) pa_nil)))))
    (pss_cons (ps_set (i := 4) sc.nd rfl (by first | exact Or.inl rfl | exact Or.inr rfl) (pe_lst (pa_cons pe_non (pa_cons pe_int (pa_cons (pe_lst pa_nil) (pa_cons (pe_tup pa_nil) (pa_cons pe_str (pa_cons (pe_listItemsX rfl (pv 2) (by rfl) T.b_list (by decide +kernel)) (pa_cons (pe_callTy (call_dictTK K rfl rfl (hu64 hr)) (by rfl) T.b_dict (by decide +kernel) (pa_cons (pe_op op_cat (pe_listItemsX rfl (pv 2) (by rfl) T.b_list (by decide +kernel)) (pe_lst (pa_cons (pe_tup (pa_cons (pe_tup (pa_cons pe_str (pa_cons pe_str pa_nil))) (pa_cons pe_int pa_nil))) pa_nil))) pa_nil)) pa_nil)))))))))
    (pss_cons (ps_if (pt_cmpR (op_neA (α := List (((Str) × (Str)))) (by decide) (hu64 hr)) (pv 1) (pe_lst pa_nil) (nomark _))
      (pss_cons (ps_expr (pe_bmK K rfl PySem.F.plainAttrs_list PySem.F.slot_list_append PySem.F.type_list_append mt_append (pv 4) (pa_cons (pe_callTy (call_dictTK K rfl rfl (hu64 hr)) (by rfl) T.b_dict (by decide +kernel) (pa_cons (pe_slice (sl_listK K rfl) (pe_listItemsX rfl (pv 2) (by rfl) T.b_list (by decide +kernel)) (po_some pe_int) po_none) pa_nil)) pa_nil)))
      (pss_cons (ps_expr (pe_bmK K rfl PySem.F.plainAttrs_list PySem.F.slot_list_extend PySem.F.type_list_extend mt_extend (pv 4) (pa_cons (pe_op op_rep (pe_lst (pa_cons (pe_callTy (call_dictTK K rfl rfl (hu64 hr)) (by rfl) T.b_dict (by decide +kernel) (pa_cons (pe_op op_cat (pe_slice (sl_listK K rfl) (pe_listItemsX rfl (pv 2) (by rfl) T.b_list (by decide +kernel)) (po_some pe_int) po_none) (pe_lst (pa_cons (pe_tup (pa_cons (pe_ix (ix_listK K rfl) (pv 1) pe_int (fun _ _ => rfl)) (pa_cons (pv 3) pa_nil))) pa_nil))) pa_nil)) pa_nil)) pe_int) pa_nil)))
      (pss_cons (ps_set (i := 5) sc.nd rfl (by first | exact Or.inl rfl | exact Or.inr rfl) (pe_callTy (call_dictTK K rfl rfl (hu64 hr)) (by rfl) T.b_dict (by decide +kernel) (pa_cons (pe_lc (own := [("_law_pair", 6)]) rfl sc.nd (pi_listK K rfl (pv 1)) (blkOk_by (own := [("_law_pair", 6)]) (N := ["_law_stream", "_law_pairs", "_law_weights", "_law_odd", "_law_some", "_law_bent", "_law_pair", "_law_thing"]) (sc := defScope s_law_m_odd_weights) (by decide +kernel)) (fun _ _ _ _ _ => (pg_name (i := 6) sc.nd rfl (by first | exact Or.inl rfl | exact Or.inr rfl))) (fun _ _ _ _ _ => pts_nil) (fun _ _ _ _ _ => (pe_tup (pa_cons (pv 6) (pa_cons (pe_ifExp (pt_cmpR (op_eqA (α := ((Str) × (Str))) (by decide) (hu64 hr)) (pv 6) (pe_ix (ix_listK K rfl) (pv 1) (pe_un un_neg pe_int) (fun _ _ => rfl)) (nomark _)) (pv 3) (pe_dget (hu_of hr) (pv 2) (pv 6) (fun _ _ => rfl))) pa_nil))))) pa_nil)))
      (pss_one (ps_expr (pe_bmK K rfl PySem.F.plainAttrs_list PySem.F.slot_list_extend PySem.F.type_list_extend mt_extend (pv 4) (pa_cons (pe_lst (pa_cons (pv 5) (pa_cons (pe_callTy (call_dictPK K rfl rfl) (by rfl) T.b_dict (by decide +kernel) (pa_cons (pe_lc (own := [("_law_pair", 6)]) rfl sc.nd (pi_listK K rfl (pv 1)) (blkOk_by (own := [("_law_pair", 6)]) (N := ["_law_stream", "_law_pairs", "_law_weights", "_law_odd", "_law_some", "_law_bent", "_law_pair", "_law_thing"]) (sc := defScope s_law_m_odd_weights) (by decide +kernel)) (fun _ _ _ _ _ => (pg_name (i := 6) sc.nd rfl (by first | exact Or.inl rfl | exact Or.inr rfl))) (fun _ _ _ _ _ => pts_nil) (fun _ _ _ _ _ => (pe_tup (pa_cons (pe_ix (ix_tupK K rfl) (pv 6) pe_int (fun _ _ => rfl)) (pa_cons pe_int pa_nil))))) pa_nil)) pa_nil))) pa_nil)))))))
      pss_nil)
    (pss_one (ps_ret (pe_has d_law_pick (hr.mono (by decide)) pass0 (by exact (pa_cons (pv 0) (pa_cons (pe_lc (own := [("_law_thing", 7)]) rfl sc.nd (pi_listK K rfl (pv 4)) (blkOk_by (own := [("_law_thing", 7)]) (N := ["_law_stream", "_law_pairs", "_law_weights", "_law_odd", "_law_some", "_law_bent", "_law_pair", "_law_thing"]) (sc := defScope s_law_m_odd_weights) (by decide +kernel)) (fun _ _ _ _ _ => (pg_name (i := 7) sc.nd rfl (by first | exact Or.inl rfl | exact Or.inr rfl))) (fun _ _ _ _ _ => (pts_one (pt_not (pt_val (pe_has d_law_m_are_weights (hr.mono (by decide)) pass0 (by exact (pa_cons (pv 1) (pa_cons (pv 7) pa_nil)))))))) (fun _ _ _ _ _ => (pv 7))) pa_nil)))))))))), ?_⟩
  obtain ⟨pvs, ha, hE⟩ := Each.ofAt hat
  have pvl := hE.length
  have psl : ps.length = pairs.length := hpm.length_eq
  have wkl : (wkv ps wt).length = ps.length := by unfold wkv; rw [List.length_map]
  -- the odd one
  refine ⟨_, rfl, _, rfl, ⟨(by show 1 ≤ sizeLine; decide), fun t1 ht1 => ⟨(by show 1 ≤ sizeLine; decide), fun l1 hl1 => ⟨(by show 7 ≤ sizeLine; decide), fun p0 hp0 => ?_⟩⟩⟩⟩
  have x0 : Ex H (upd (upd (upd H t1 (.tup [.int 1])) l1 (.lst [.int 2])) p0 (.lst [.int 0, .int (-1), .bl true, .non, .str "1", .ref t1, .ref l1])) := (Ex.new ht1).trans ((Ex.new hl1).trans (Ex.new hp0))
  have VW := view_off S
  have h0 : (off st cl (upd (upd (upd H t1 (.tup [.int 1])) l1 (.lst [.int 2])) p0 (.lst [.int 0, .int (-1), .bl true, .non, .str "1", .ref t1, .ref l1]))) p0 = some (.lst [.int 0, .int (-1), .bl true, .non, .str "1", .ref t1, .ref l1])   := VW.new _ _ _ (fresh_back ((Ex.new ht1).trans (Ex.new hl1)) hp0) upd_same
  have h1 : (off st cl (upd (upd (upd H t1 (.tup [.int 1])) l1 (.lst [.int 2])) p0 (.lst [.int 0, .int (-1), .bl true, .non, .str "1", .ref t1, .ref l1]))) t1 = some (.tup [.int 1])   := VW.new _ _ _ ht1 (Ex.new hp0 _ _ (Ex.new hl1 _ _ upd_same))
  have h2 : (off st cl (upd (upd (upd H t1 (.tup [.int 1])) l1 (.lst [.int 2])) p0 (.lst [.int 0, .int (-1), .bl true, .non, .str "1", .ref t1, .ref l1]))) l1 = some (.lst [.int 2])   := VW.new _ _ _ (fresh_back (Ex.new ht1) hl1) (Ex.new hp0 _ _ upd_same)
  have S0 := S.mono x0
  have y0 := VW.mono _ x0
  generalize upd (upd (upd H t1 (.tup [.int 1])) l1 (.lst [.int 2])) p0 (.lst [.int 0, .int (-1), .bl true, .non, .str "1", .ref t1, .ref l1]) = H0 at x0 h0 h1 h2 S0 y0
  refine ⟨st, cl, B, p0, _, rfl, S0, by omega, h0, by simp, by show 7 ≤ 100000; omega, fun H1 odd e1 S1 hm => ?_⟩
  have y1 : Ex (off st cl H) (off st cl H1) := y0.trans (off_up e1)
  have z1 := off_up e1
  have hodd : ValOk (off st cl H1) odd := by
    simp only [List.mem_cons, List.not_mem_nil, or_false] at hm
    rcases hm with rfl | rfl | rfl | rfl | rfl | rfl | rfl
    · exact ⟨_, .int 1 _⟩
    · exact ⟨_, .int 1 _⟩
    · exact ⟨_, .bl 1 _⟩
    · exact ⟨_, .non 1⟩
    · exact ⟨_, .str 1 _⟩
    · exact ⟨_, .tup (z1 _ _ h1) (by show 1 ≤ 10000; omega) (.cons (.int 0 1) .nil)⟩
    · exact ⟨_, .lst (z1 _ _ h2) (by show 1 ≤ 10000; omega) (.cons (.int 0 2) .nil)⟩
  have hE1 : Each (off st cl H1) pvs pairs := hE.mono y1
  have ha1 := y1 _ _ ha
  have hw1 := y1 _ _ hwb
  have qq : ∀ (v : V) (t : Tr) (H' : Hp), Ex (off st cl H1) H' → Stm H' st cl (B + 2) → BadW (off st cl H') v pairs → TrAt (off st cl H') 4 v t → Q v H' := fun v t H' e => q v t H' (y1.trans e)
  clear h0 h1 h2 hm e1 y1 z1 y0 S0 VW hp0 hl1 ht1 q S hat hE ha hwb x0
  have V1 := view_off S1
  have w1 := off_sub _ _ hw1
  -- what might be weights
  refine ⟨(by show 0 ≤ sizeLine; decide), fun q1 hq1 => ⟨(by show 0 ≤ sizeLine; decide), fun q2 hq2 => ?_⟩⟩
  have x2 : Ex H1 (upd (upd H1 q1 (.lst [])) q2 (.tup [])) := (Ex.new hq1).trans (Ex.new hq2)
  have o1 : (off st cl (upd (upd H1 q1 (.lst [])) q2 (.tup []))) q1 = some (.lst []) := V1.new _ _ _ hq1 (Ex.new hq2 _ _ upd_same)
  have o2 : (off st cl (upd (upd H1 q1 (.lst [])) q2 (.tup []))) q2 = some (.tup []) := V1.new _ _ _ (fresh_back (Ex.new hq1) hq2) upd_same
  generalize upd (upd H1 q1 (.lst [])) q2 (.tup []) = H2 at x2 o1 o2
  have V2 := view_off (S1.mono x2)
  refine ⟨_, rfl, items_go (F := off st cl) (x2 _ _ w1) fun H3 p3 ts3 e3 hp3 hl3 hP3 => ?_⟩
  have V3 := view_off (S1.mono (x2.trans e3))
  have tl3 := hP3.length
  have odd3 : Odd pairs (off st cl H3) (.ref p3) := items_odd V2 V3 hp3 hl3 hP3 (by omega)
  refine ⟨_, rfl, items_go (F := off st cl) ((x2.trans e3) _ _ w1) fun H4 p4 ts4 e4 hp4 hl4 hP4 => ?_⟩
  have tl4 := hP4.length
  refine ⟨(by show 2 ≤ sizeLine; decide), fun q5 hq5 => ⟨(by show 2 ≤ sizeLine; decide), fun q6 hq6 => ⟨(by show 1 ≤ sizeLine; decide), fun q7 hq7 => ?_⟩⟩⟩
  have s1 : (1000 : Nat) < sizeLine := by decide
  have x7 : Ex H4 (upd (upd (upd H4 q5 (.tup [.str "none", .str "none"])) q6 (.tup [.ref q5, .int 1])) q7 (.lst [.ref q6])) := (Ex.new hq5).trans ((Ex.new hq6).trans (Ex.new hq7))
  have i5 : (upd (upd (upd H4 q5 (.tup [.str "none", .str "none"])) q6 (.tup [.ref q5, .int 1])) q7 (.lst [.ref q6])) q5 = some (.tup [.str "none", .str "none"]) := Ex.new hq7 _ _ (Ex.new hq6 _ _ upd_same)
  have i6 : (upd (upd (upd H4 q5 (.tup [.str "none", .str "none"])) q6 (.tup [.ref q5, .int 1])) q7 (.lst [.ref q6])) q6 = some (.tup [.ref q5, .int 1]) := Ex.new hq7 _ _ upd_same
  have i7 : (upd (upd (upd H4 q5 (.tup [.str "none", .str "none"])) q6 (.tup [.ref q5, .int 1])) q7 (.lst [.ref q6])) q7 = some (.lst [.ref q6]) := upd_same
  generalize upd (upd (upd H4 q5 (.tup [.str "none", .str "none"])) q6 (.tup [.ref q5, .int 1])) q7 (.lst [.ref q6]) = H7 at x7 i5 i6 i7
  refine ⟨p4, q7, _, _, rfl, rfl, x7 _ _ hl4, i7, (by rw [List.length_map]; show ts4.length + 1 ≤ sizeLine; omega), fun q8 hq8 => ?_⟩
  have x8 : Ex H7 (upd H7 q8 (.lst (ts4.map V.ref ++ [.ref q6]))) := Ex.new hq8
  have i8 : (upd H7 q8 (.lst (ts4.map V.ref ++ [.ref q6]))) q8 = some (.lst ((ts4 ++ [q6]).map V.ref)) := by rw [upd_same, List.map_append]; rfl
  have ti8 : TItems (upd H7 q8 (.lst (ts4.map V.ref ++ [.ref q6]))) (ts4 ++ [q6]) (wkv ps wt ++ [([.inr "none", .inr "none"], .int 1)]) := paired_app (hP4.mono (x7.trans x8)) (.cons ⟨q5, x8 _ _ i6, x8 _ _ i5⟩ .nil)
  generalize upd H7 q8 (.lst (ts4.map V.ref ++ [.ref q6])) = H8 at x8 i8 ti8
  have x18 := (x2.trans e3).trans (e4.trans (x7.trans x8))
  have V8 := view_off (S1.mono x18)
  delta tNil
  dsimp only
  refine dict_odd (pairs := pairs) V8 i8 ti8 (fun z hz => ?_) (by rw [List.length_append, List.length_singleton]; omega) fun q9 o9 hq9 odd9 => ?_
  · rcases List.mem_append.mp hz with g | g
    · exact wkv_ok z g
    · rw [List.mem_singleton.mp g]; exact ⟨by show 2 ≤ 10000; omega, _, .int 1 1⟩
  refine ⟨(by show 7 ≤ sizeLine; decide), fun sm hsm => ?_⟩
  have S8 := S1.mono x18
  have S9 := S8.mono (Ex.new (o := o9) hq9)
  have nsm := S9.ne hsm
  have x9 : Ex H8 (upd (upd H8 q9 o9) sm (.lst [.non, .int 5, .ref q1, .ref q2, .str "ab", .ref p3, .ref q9])) := (Ex.new hq9).trans (Ex.new hsm)
  have hs9 : (upd (upd H8 q9 o9) sm (.lst [.non, .int 5, .ref q1, .ref q2, .str "ab", .ref p3, .ref q9])) sm = some (.lst [.non, .int 5, .ref q1, .ref q2, .str "ab", .ref p3, .ref q9]) := upd_same
  have sm9 : (off st cl (upd H8 q9 o9)) sm = none := by rw [off_ne nsm.1 nsm.2]; exact hsm
  have k9 : Ex (off st cl (upd H8 q9 o9)) (off3 st cl sm (upd (upd H8 q9 o9) sm (.lst [.non, .int 5, .ref q1, .ref q2, .str "ab", .ref p3, .ref q9]))) := ex_del (off_mono (Ex.new hsm)) sm9
  have V9 := V8.mono _ (Ex.new (o := o9) hq9)
  have smH1 : (off st cl H1) sm = none := by
    rw [off_ne nsm.1 nsm.2]
    exact fresh_back (x18.trans (Ex.new hq9)) hsm
  have kk : ∀ {H' : Hp}, Ex H' H8 → Ex (off st cl H') (off3 st cl sm (upd (upd H8 q9 o9) sm (.lst [.non, .int 5, .ref q1, .ref q2, .str "ab", .ref p3, .ref q9]))) := fun e => (off_mono e).trans (V9.trans k9)
  have k2 := kk ((e3.trans e4).trans (x7.trans x8))
  have k3 := kk (e4.trans (x7.trans x8))
  have k1 := kk x18
  have odds : ∀ v ∈ ([.non, .int 5, .ref q1, .ref q2, .str "ab", .ref p3, .ref q9] : List V), Odd pairs (off3 st cl sm (upd (upd H8 q9 o9) sm (.lst [.non, .int 5, .ref q1, .ref q2, .str "ab", .ref p3, .ref q9]))) v := fun v hv => by
    simp only [List.mem_cons, List.not_mem_nil, or_false] at hv
    rcases hv with rfl | rfl | rfl | rfl | rfl | rfl | rfl
    · exact odd_kind (.non 4) (fun e => by cases e)
    · exact odd_kind (.int 4 5) (fun e => by cases e)
    · exact odd_kind (t := .lst []) (.lst (k2 _ _ o1) (by show 0 ≤ 10000; omega) .nil) (fun e => by cases e)
    · exact odd_kind (t := .tup []) (.tup (k2 _ _ o2) (by show 0 ≤ 10000; omega) .nil) (fun e => by cases e)
    · exact odd_kind (.str 4 _) (fun e => by cases e)
    · exact odd3.mono k3
    · exact odd9.mono k9
  have ha9 := k1 _ _ ha1
  have hw9 := k1 _ _ hw1
  have hE9 := hE1.mono k1
  obtain ⟨to, hto⟩ := hodd
  have hto9 := hto.mono k1
  have S9' := S8.mono x9
  have y9 : Ex (off st cl H1) (upd (upd H8 q9 o9) sm (.lst [.non, .int 5, .ref q1, .ref q2, .str "ab", .ref p3, .ref q9])) := off_sub.trans (x18.trans x9)
  generalize upd (upd H8 q9 o9) sm (.lst [.non, .int 5, .ref q1, .ref q2, .str "ab", .ref p3, .ref q9]) = H9 at x9 hs9 k9 kk k2 k3 k1 odds ha9 hw9 hE9 hto9 S9' y9
  clear kk k2 k3 k1 V9 sm9 x9 S9 S8 hsm odd9 hq9 V8 x18 ti8 i8 x8 hq8 i5 i6 i7 x7 hq5 hq6 hq7 hP4 hl4 hp4 e4 odd3 hP3 hl3 hp3 e3 V3 V2 o1 o2 x2 hq1 hq2
  -- the pick
  have fin : ∀ (H' : Hp) (vs : List V) (u5 : Option V) (Dx : Ends), Dx.rt = Q → Ex (off st cl H1) H' → Stm H' st cl (B + 1) → H' sm = some (.lst vs) → vs.length ≤ 100 → (∀ v ∈ vs, Odd pairs (off3 st cl sm H') v) → V.non ∈ vs → (off3 st cl sm H') a = some (.lst pvs) → Each (off3 st cl sm H') pvs pairs →
      tRet (tCall sp_law_pick [] E0 (tCons (tVar 0) (tCons (tLc (iList K (tVar 4)) (gName 7) (tNot (tB (tCall sp_law_m_are_weights [] E0 (tCons (tVar 1) (tCons (tVar 7) tNil))))) (tVar 7) [7]) tNil))) Dx [some (.ref st), some (.ref a), some (.ref wb), some odd, some (.ref sm), u5, none, none] H' := by
    intro H' vs u5 Dx hDx y S' hs hvl hod hnon ha' hE'
    have sub : Ex (off3 st cl sm H') H' := off3_sub.trans off_sub
    refine ⟨_, rfl, _, rfl, sm, rfl, ⟨_, SqL.of hs⟩, fun Dd hD => ?_⟩
    refine lcL (R := VR) (S := VR) (xs := vs) (f := fun v => @ite _ (∃ wt, Wts (off3 st cl sm H') v pairs wt) (Classical.propDecidable _) none (some v)) v_stays v_stays (fun _ e => SqL.of (e _ _ hs)) (vr_self vs) hD (by omega) (fun v x H2 e2 hv hx Kn Ky kn ky => ?_) (fun H2 md => ?_)
    · have hv' : v = x := hv
      subst hv'
      obtain ⟨hgb, t, ht⟩ := hod v hx
      by_cases hg : ∃ wt, Wts (off3 st cl sm H') v pairs wt
      · obtain ⟨wt', hw'⟩ := hg
        refine ⟨rfl, _, rfl, _, rfl, a, pairs, v, rfl, at_list (e2 _ _ (sub _ _ ha')) (hE'.mono (sub.trans e2)), by omega, Or.inl ⟨⟨wt', hw'.mono (sub.trans e2)⟩, fun H3 e3 => ⟨_, rfl, iteF (kn _ e3 ?_)⟩⟩⟩
        exact if_pos ⟨wt', hw'⟩
      · have hb := hgb.resolve_left hg
        refine ⟨rfl, _, rfl, _, rfl, a, pairs, v, rfl, at_list (e2 _ _ (sub _ _ ha')) (hE'.mono (sub.trans e2)), by omega, Or.inr ⟨hb.mono (sub.trans e2), fun H3 e3 => ⟨_, rfl, iteT ⟨_, rfl, ky _ v _ e3 ?_ fun _ _ _ => rfl⟩⟩⟩⟩
        exact if_neg hg
    · obtain ⟨hn, ex, ws, hD', hw'⟩ := md
      have ew := vr_eq hw'
      rw [ew] at hD'
      have nD := S'.ne hn
      have kept : ∀ x, x ∈ vs.filterMap (fun v => @ite _ (∃ wt, Wts (off3 st cl sm H') v pairs wt) (Classical.propDecidable _) none (some v)) ↔ x ∈ vs ∧ ¬ ∃ wt, Wts (off3 st cl sm H') x pairs wt := fun x => by
        rw [List.mem_filterMap]
        constructor
        · rintro ⟨v, hv, h⟩
          by_cases hg : ∃ wt, Wts (off3 st cl sm H') v pairs wt
          · rw [if_pos hg] at h; cases h
          · rw [if_neg hg] at h
            cases h
            exact ⟨hv, hg⟩
        · rintro ⟨hv, hg⟩
          exact ⟨x, hv, if_neg hg⟩
      have hnon' := (kept .non).mpr ⟨hnon, fun ⟨wt', b, kvs, e, _⟩ => by cases e⟩
      have hDo := (show (off st cl H2) Dd = H2 Dd from off_ne nD.1 nD.2).trans hD'
      refine ⟨st, cl, B + 1, Dd, _, rfl, S'.mono ex, by omega, hDo, List.ne_nil_of_mem hnon', Nat.le_trans (List.length_filterMap_le _ _) (by omega), fun H4 x e4 S4 hx => ?_⟩
      obtain ⟨hxv, hxg⟩ := (kept x).mp hx
      obtain ⟨hgb, t, ht⟩ := hod x hxv
      have hb := hgb.resolve_left hxg
      have up : Ex (off3 st cl sm H') (off st cl H4) := off3_sub.trans ((off_mono ex).trans (off_up e4))
      rw [hDx]
      exact qq x t H4 ((off_up y).trans ((off_mono ex).trans e4)) S4 (hb.mono up) (ht.mono up)
  have at9 := at_list (H := H9) ((off3_sub.trans off_sub) _ _ ha9) (hE9.mono (off3_sub.trans off_sub))
  refine ⟨_, rfl, (by show 0 ≤ sizeLine; decide), fun pe hpe => ⟨pairs, [], Enc.mono (Ex.new hpe) at9, at_list upd_same .nil, _, rfl, ?_⟩⟩
  have ep : Ex H9 (upd H9 pe (.lst [])) := Ex.new hpe
  generalize upd H9 pe (.lst []) = H10 at ep
  have hs10 := ep _ _ hs9
  have S10 := S9'.mono ep
  have z10 : Ex (off3 st cl sm H9) (off3 st cl sm H10) := off3_mono ep
  by_cases hpn : pairs = []
  · exact iteND hpn (fin H10 _ none _ rfl (y9.trans ep) S10 hs10 (by show 7 ≤ 100; omega) (fun v hv => (odds v hv).mono z10) (by simp) (z10 _ _ ha9) (hE9.mono z10))
  · refine iteNDn hpn ?_
    have smG : (off st cl H1) sm = none := smH1
    have O10 : OSt st cl sm a wb (B + 1) (off st cl H1) pairs ps wt pvs odd to H10 [.non, .int 5, .ref q1, .ref q2, .str "ab", .ref p3, .ref q9] := ⟨y9.trans ep, S10, hs10, fun v hv => (odds v hv).mono z10, by simp, z10 _ _ ha9, z10 _ _ hw9, hE9.mono z10, hto9.mono z10⟩
    clear odds ha9 hw9 hE9 hto9 y9 S9' hs9 at9 z10 ep hpe hs10 S10
    have ppos := List.length_pos_iff.mpr hpn
    have cut1 : ∀ (ts : List Addr) (H' : Hp), TItems H' ts (wkv ps wt) → cutV (ts.map V.ref) (some 1) none = (ts.drop 1).map V.ref := fun ts H' h => by
      rw [List.map_drop]
      exact cut_drop (ts.map V.ref) 1 (by rw [List.length_map, h.length, wkl, psl]; omega)
    have tlen : ∀ (ts : List Addr) (H' : Hp), TItems H' ts (wkv ps wt) → ts.length = pairs.length := fun ts H' h => by rw [h.length, wkl, psl]
    -- append(dict(items[1:]))
    refine ⟨_, rfl, Or.inl ⟨rfl, _, SqL.of O10.hs⟩, ?_⟩
    refine ⟨_, rfl, items_go (F := off3 st cl sm) O10.wd fun H11 p1 ts1 e1 hp1 hl1 hP1 => ⟨1, rfl, p1, _, rfl, SqL.of hl1, fun sl1 hsl1 => ?_⟩⟩
    rw [cut1 ts1 H11 hP1]
    dsimp only
    have x11 : Ex H10 (upd H11 sl1 (.lst ((ts1.drop 1).map V.ref))) := e1.trans (Ex.new hsl1)
    have i11 : (upd H11 sl1 (.lst ((ts1.drop 1).map V.ref))) sl1 = some (.lst ((ts1.drop 1).map V.ref)) := upd_same
    have ti11 : TItems (upd H11 sl1 (.lst ((ts1.drop 1).map V.ref))) (ts1.drop 1) ((wkv ps wt).drop 1) := paired_drop 1 (hP1.mono (Ex.new hsl1))
    have tl1 := tlen ts1 H11 hP1
    generalize upd H11 sl1 (.lst ((ts1.drop 1).map V.ref)) = H12 at x11 i11 ti11
    have O12 := O10.mono x11
    refine dict_odd (pairs := pairs) O12.view i11 ti11 (fun z hz => wkv_ok z (List.mem_of_mem_drop hz)) (by rw [List.length_drop]; omega) fun d1 o1 hd1 odd1 => ?_
    have O13 := O12.mono (Ex.new (o := o1) hd1)
    refine ⟨sm, _, .ref d1, rfl, rfl, O13.hs, (by show 7 < sizeLine; decide), ?_⟩
    have O14 := O13.put nsm smG (ws := [.ref d1]) (fun v hv => by rw [List.mem_singleton.mp hv]; exact odd1)
    generalize upd (upd H12 d1 o1) sm (.lst ([.non, .int 5, .ref q1, .ref q2, .str "ab", .ref p3, .ref q9] ++ [.ref d1])) = H14 at O14
    clear O13 O12 O10 x11 i11 ti11 hP1 hl1 hp1 e1
    -- extend([dict(items[1:] + [(pairs[0], odd)])] * 3)
    refine ⟨_, rfl, Or.inl ⟨rfl, _, SqL.of O14.hs⟩, ?_⟩
    refine ⟨_, rfl, items_go (F := off3 st cl sm) O14.wd fun H15 p2 ts2 e2 hp2 hl2 hP2 => ⟨1, rfl, p2, _, rfl, SqL.of hl2, fun sl2 hsl2 => ?_⟩⟩
    rw [cut1 ts2 H15 hP2]
    dsimp only
    obtain ⟨pr0, prs, hpr⟩ := List.exists_cons_of_ne_nil hpn
    have x16 : Ex H14 (upd H15 sl2 (.lst ((ts2.drop 1).map V.ref))) := e2.trans (Ex.new hsl2)
    have i16 : (upd H15 sl2 (.lst ((ts2.drop 1).map V.ref))) sl2 = some (.lst ((ts2.drop 1).map V.ref)) := upd_same
    have ti16 : TItems (upd H15 sl2 (.lst ((ts2.drop 1).map V.ref))) (ts2.drop 1) ((wkv ps wt).drop 1) := paired_drop 1 (hP2.mono (Ex.new hsl2))
    have tl2 := tlen ts2 H15 hP2
    generalize upd H15 sl2 (.lst ((ts2.drop 1).map V.ref)) = H16 at x16 i16 ti16
    have O16 := O14.mono x16
    obtain ⟨v0, hv0, hat0⟩ := paired_get2 (i := 0) (x := pr0) O16.hE (by rw [hpr]; rfl)
    obtain ⟨b0, rfl, hb0⟩ := pr_ref hat0
    have hb0' := OSt.sub _ _ hb0
    refine ⟨_, rfl, a, pvs, 0, .ref b0, rfl, rfl, SqL.of O16.ad, atI_nat (j := 0) hv0, _, rfl, (by show 2 ≤ sizeLine; decide), fun q20 hq20 => ⟨(by show 1 ≤ sizeLine; decide), fun q21 hq21 => ?_⟩⟩
    have x21 : Ex H16 (upd (upd H16 q20 (.tup [.ref b0, odd])) q21 (.lst [.ref q20])) := (Ex.new hq20).trans (Ex.new hq21)
    have i20 : (upd (upd H16 q20 (.tup [.ref b0, odd])) q21 (.lst [.ref q20])) q20 = some (.tup [.ref b0, odd]) := Ex.new hq21 _ _ upd_same
    have i21 : (upd (upd H16 q20 (.tup [.ref b0, odd])) q21 (.lst [.ref q20])) q21 = some (.lst [.ref q20]) := upd_same
    generalize upd (upd H16 q20 (.tup [.ref b0, odd])) q21 (.lst [.ref q20]) = H17 at x21 i20 i21
    refine ⟨sl2, q21, _, _, rfl, rfl, x21 _ _ i16, i21, (by rw [List.length_map, List.length_drop]; show ts2.length - 1 + 1 ≤ sizeLine; omega), fun q22 hq22 => ?_⟩
    have i22 : (upd H17 q22 (.lst ((ts2.drop 1).map V.ref ++ [.ref q20]))) q22 = some (.lst ((ts2.drop 1 ++ [q20]).map V.ref)) := by rw [upd_same, List.map_append]; rfl
    have ti22 : TItems (upd H17 q22 (.lst ((ts2.drop 1).map V.ref ++ [.ref q20]))) (ts2.drop 1 ++ [q20]) ((wkv ps wt).drop 1 ++ [(kP pr0, odd)]) := paired_app (ti16.mono (x21.trans (Ex.new hq22))) (.cons ⟨b0, Ex.new hq22 _ _ i20, Ex.new hq22 _ _ (x21 _ _ hb0')⟩ .nil)
    have x22 : Ex H14 (upd H17 q22 (.lst ((ts2.drop 1).map V.ref ++ [.ref q20]))) := x16.trans (x21.trans (Ex.new hq22))
    generalize upd H17 q22 (.lst ((ts2.drop 1).map V.ref ++ [.ref q20])) = H18 at i22 ti22 x22
    have O18 := O14.mono x22
    refine dict_odd (pairs := pairs) O18.view i22 ti22 (fun z hz => ?_) (by rw [List.length_append, List.length_drop, List.length_singleton]; omega) fun d2 o2 hd2 odd2 => ?_
    · rcases List.mem_append.mp hz with g | g
      · exact wkv_ok z (List.mem_of_mem_drop g)
      · rw [List.mem_singleton.mp g]; exact ⟨by show 2 ≤ 10000; omega, to, O18.ht⟩
    have O19 := O18.mono (Ex.new (o := o2) hd2)
    generalize upd H18 d2 o2 = H19 at O19 odd2
    refine ⟨(by show 1 ≤ sizeLine; decide), fun l3 hl3 => ⟨l3, 3, [.ref d2], rfl, rfl, upd_same, by decide, by decide, (by show 1 * 3 ≤ sizeLine; decide), fun l4 hl4 => ?_⟩⟩
    have x20 : Ex H19 (upd (upd H19 l3 (.lst [.ref d2])) l4 (.lst (List.replicate (3 : Int).toNat [V.ref d2]).flatten)) := (Ex.new hl3).trans (Ex.new hl4)
    have i4 : (upd (upd H19 l3 (.lst [.ref d2])) l4 (.lst (List.replicate (3 : Int).toNat [V.ref d2]).flatten)) l4 = some (.lst [.ref d2, .ref d2, .ref d2]) := upd_same
    generalize upd (upd H19 l3 (.lst [.ref d2])) l4 (.lst (List.replicate (3 : Int).toNat [V.ref d2]).flatten) = H20 at x20 i4
    have O20 := O19.mono x20
    have odd2' := odd2.mono (off3_mono (st := st) (cl := cl) (sm := sm) x20)
    refine ⟨sm, l4, _, _, rfl, rfl, O20.hs, i4, (by show 8 + 3 ≤ sizeLine; decide), ?_⟩
    have O21 := O20.put nsm smG (ws := [.ref d2, .ref d2, .ref d2]) (fun v hv => by
      simp only [List.mem_cons, List.not_mem_nil, or_false] at hv
      rcases hv with rfl | rfl | rfl <;> exact odd2')
    generalize upd H20 sm (.lst ([.non, .int 5, .ref q1, .ref q2, .str "ab", .ref p3, .ref q9] ++ [.ref d1] ++ [.ref d2, .ref d2, .ref d2])) = H21 at O21
    clear O20 O19 O18 O16 O14 x20 i4 x22 i22 ti22 x21 i20 i21 x16 i16 ti16 hP2 hl2 hp2 e2 odd2 odd2' hat0 hb0 hb0' odd1
    have plen : pairs.length - 1 < pairs.length := by omega
    obtain ⟨vl, hvl, hatl⟩ := paired_get2 (i := pairs.length - 1) (x := pairs[pairs.length - 1]) O21.hE (List.getElem?_eq_getElem plen)
    have hvl' : pvs[pvs.length - 1]? = some vl := by rw [pvl]; exact hvl
    have hatl' := Enc.mono (OSt.sub (st := st) (cl := cl) (sm := sm)) hatl
    generalize pairs[pairs.length - 1] = pl at hatl hatl'
    dsimp only
    refine ⟨_, rfl, a, rfl, ⟨_, SqL.of O21.ad⟩, fun Dd hD => ?_⟩
    refine lcL (R := fun _ v p => At H21 v p) (S := BtR) (xs := pairs) (f := fun p => some (p, if decide (p = pl) = true then odd else V.int (wt p))) ⟨fun _ _ _ _ _ h => h⟩ bt_stays (fun _ e => SqL.of (e _ _ O21.ad)) (O21.hE.mono OSt.sub) hD (by omega) (fun v p G e hv hp Kn Ky kn ky => ?_) (fun H22 md => ?_)
    · obtain ⟨b, rfl, hb⟩ := pr_ref hv
      refine ⟨rfl, _, rfl, _, rfl, _, rfl, 1, rfl, a, pvs, -1, vl, rfl, rfl, SqL.of (e _ _ O21.ad), atI_last hvl', p, pl, Enc.mono e hv, Enc.mono e hatl', _, rfl, ?_⟩
      by_cases hq : p = pl
      · refine iteD hq ⟨_, rfl, (by show 2 ≤ sizeLine; decide), fun t ht => ky _ (p, odd) _ (Ex.new ht) (by simp [hq]) fun G' eG gG => ⟨t, b, rfl, gG _ _ ht upd_same, eG _ _ hb⟩⟩
      · have g := DGet.t (k := kP p) (e _ _ O21.wd) (e _ _ hb)
        rw [wkv_at (hpm.mem_iff.mpr hp)] at g
        exact iteDn hq ⟨_, rfl, _, rfl, wb, _, rfl, g, (by show 2 ≤ sizeLine; decide), fun t ht => ky _ (p, V.int (wt p)) _ (Ex.new ht) (by simp [hq]) fun G' eG gG => ⟨t, b, rfl, gG _ _ ht upd_same, eG _ _ hb⟩⟩
    · obtain ⟨_, ex, ws, hD', hw'⟩ := md
      rw [fm_map] at hw'
      have hw2 : Paired (BtR H22) ws (pairs.map fun p => (p, if decide (p = pl) = true then odd else V.int (wt p))) := Paired.stays bt_stays del_sub hw'
      obtain ⟨ts, rfl, hT⟩ := bt_items hw2
      have O22 := O21.mono ex
      have tl := hT.length
      rw [List.length_map, List.length_map] at tl
      refine dict_odd (pairs := pairs) O22.view hD' hT (fun z hz => ?_) (by omega) fun d3 o3 hd3 odd3' => ?_
      · obtain ⟨y, hy, rfl⟩ := List.mem_map.mp hz
        obtain ⟨p, hp, rfl⟩ := List.mem_map.mp hy
        refine ⟨by show 2 ≤ 10000; omega, ?_⟩
        dsimp only
        by_cases hq : p = pl
        · rw [if_pos (decide_eq_true hq)]; exact ⟨to, O22.ht⟩
        · rw [if_neg (by simpa using hq)]; exact ⟨_, .int 1 _⟩
      have O23 := O22.mono (Ex.new (o := o3) hd3)
      generalize upd H22 d3 o3 = H23 at O23 odd3'
      refine ⟨_, rfl, Or.inl ⟨rfl, _, SqL.of O23.hs⟩, _, rfl, _, rfl, a, rfl, ⟨_, SqL.of O23.ad⟩, fun D2 hD2 => ?_⟩
      refine lcL (R := fun _ v p => At H23 v p) (S := OnR) (xs := pairs) (f := fun p => some p.1) ⟨fun _ _ _ _ _ h => h⟩ on_stays (fun _ e => SqL.of (e _ _ O23.ad)) (O23.hE.mono OSt.sub) hD2 (by omega) (fun v p G e hv hp Kn Ky kn ky => ?_) (fun H24 md => ?_)
      · obtain ⟨b, rfl, hb⟩ := pr_ref hv
        exact ⟨rfl, _, rfl, b, _, 0, .str p.1, rfl, rfl, SqT.of (e _ _ hb), rfl, (by show 2 ≤ sizeLine; decide), fun t ht => ky _ p.1 _ (Ex.new ht) rfl fun G' eG gG => ⟨t, rfl, gG _ _ ht upd_same⟩⟩
      · obtain ⟨_, ex2, ws2, hD2', hw2'⟩ := md
        rw [fm_map] at hw2'
        obtain ⟨ts2', rfl, hT2⟩ := on_items (K := K) (Paired.stays on_stays del_sub hw2')
        have tl2' := hT2.length
        rw [List.length_map, List.length_map] at tl2'
        refine ⟨D2, ts2', _, rfl, SqL.of hD2', hT2, fun d4 hd4 => ⟨(by show 2 ≤ sizeLine; decide), fun l5 hl5 => ?_⟩⟩
        have O24 := O23.mono ex2
        have odd4 : Odd pairs (off3 st cl sm (upd H24 d4 (.dK (mergeK [] ((pairs.map fun p => p.1).map fun x => ((Sum.inr x : Key), V.int 1)))))) (.ref d4) := by
          refine odd_dK (O24.view.new _ _ _ hd4 upd_same) ?_ (fun z hz => ?_) hpn
          · refine Nat.le_trans (fold_len _ []) ?_
            show 0 + _ ≤ 10000
            rw [List.length_map, List.length_map]
            omega
          · rcases fold_mem _ [] z hz with g | g
            · cases g
            · obtain ⟨y, _, rfl⟩ := List.mem_map.mp g
              exact ⟨_, .int 1 1⟩
        have x25 : Ex (upd H24 d4 (.dK (mergeK [] ((pairs.map fun p => p.1).map fun x => ((Sum.inr x : Key), V.int 1))))) (upd (upd H24 d4 (.dK (mergeK [] ((pairs.map fun p => p.1).map fun x => ((Sum.inr x : Key), V.int 1))))) l5 (.lst [.ref d3, .ref d4])) := Ex.new hl5
        have i5' : (upd (upd H24 d4 (.dK (mergeK [] ((pairs.map fun p => p.1).map fun x => ((Sum.inr x : Key), V.int 1))))) l5 (.lst [.ref d3, .ref d4])) l5 = some (.lst [.ref d3, .ref d4]) := upd_same
        have O25 := O24.mono ((Ex.new hd4).trans x25)
        have odd3'' := odd3'.mono (off3_mono (st := st) (cl := cl) (sm := sm) (ex2.trans ((Ex.new hd4).trans x25)))
        have odd4' := odd4.mono (off3_mono (st := st) (cl := cl) (sm := sm) x25)
        generalize upd (upd H24 d4 (.dK (mergeK [] ((pairs.map fun p => p.1).map fun x => ((Sum.inr x : Key), V.int 1))))) l5 (.lst [.ref d3, .ref d4]) = H25 at i5' O25 odd3'' odd4'
        refine ⟨sm, l5, _, _, rfl, rfl, O25.hs, i5', (by show 11 + 2 ≤ sizeLine; decide), ?_⟩
        have O26 := O25.put nsm smG (ws := [.ref d3, .ref d4]) (fun v hv => by
          simp only [List.mem_cons, List.not_mem_nil, or_false] at hv
          rcases hv with rfl | rfl
          · exact odd3''
          · exact odd4')
        exact fin _ _ _ _ rfl O26.y O26.S O26.hs (by show 13 ≤ 100; omega) O26.od O26.non O26.ha O26.hE
end
end K73
set_option maxRecDepth 100000
set_option maxHeartbeats 4000000
namespace K73
open Enc (At enc)
open PySem L2 Evl LamX
section
variable {P : Program} {w : World} {K : PySem.W.Frag} {mg : Str → Option Value} {base : Heap}
abbrev s_law_met : Stmt := top 77
theorem sc_law_met : FnScope ["_law_ask", "e"] ["_law_ask"] (defScope s_law_met) := ⟨rfl, rfl, rfl, by decide +kernel, rfl, by decide +kernel, by decide +kernel⟩
/-- which of the three errors is caught by which clause -/
structure ErrsK (K : PySem.W.Frag) (CW CN CB : Addr) : Prop where
  ww : PySem.W.exmOne K (.ref CW) (.ref CW) = some true
  nw : PySem.W.exmOne K (.ref CN) (.ref CW) = some false
  nn : PySem.W.exmOne K (.ref CN) (.ref CN) = some true
  bw : PySem.W.exmOne K (.ref CB) (.ref CW) = some false
  bn : PySem.W.exmOne K (.ref CB) (.ref CN) = some false
  bb : PySem.W.exmOne K (.ref CB) (.ref CB) = some true
/-- the pair (nm, v) is told -/
def TellP (nm : Str) (Q : VK) (v : V) (H : Hp) : Prop := ([V.str nm, v] : List V).length ≤ sizeLine ∧ ∀ p, H p = none → Q (.ref p) (upd H p (.tup [.str nm, v]))
/-- .. of the caught error's thing -/
def Caught (nm : Str) (C : Addr) (Q : VK) : XK := fun cls d H => cls = .ref C ∧ ∃ (dd : Addr) (fs : List (Str × V)) (v : V), d = some dd ∧ H dd = some (.xd fs) ∧ fs.lookup ("thing" : Str) = some v ∧ TellP nm Q v H
def TTmet (CW CN CB : Addr) : (XK → Hp → VK → Prop) → Hp → VK → Prop := fun tl H Q => tl (fun cls d H' => Caught "weights" CW Q cls d H' ∨ Caught "statement" CN Q cls d H' ∨ Caught "name" CB Q cls d H') H (TellP "told" Q)
def clX (K : PySem.W.Frag) (nm : Str) (C : Addr) : Addr → Value → Option Addr → TS := fun a cls d => tRet (tTup (tCons (tC (.str nm)) (tCons (tXf a cls d C "thing" (tVar 1)) tNil)))
theorem xfC_of {x : Str} {C : Addr} (h : HasErr P w K mg base x "thing" C) : XfC K C := ⟨h.ga, h.gg, h.ox.exC, h.hd⟩
theorem gives_met {X : Cx} {CW CN CB : Addr} {q : Str} (eW : HasErr X.prog X.w X.K X.mg X.base "BadWeights" "thing" CW) (eN : HasErr X.prog X.w X.K X.mg X.base "NoStatement" "thing" CN) (eB : HasErr X.prog X.w X.K X.mg X.base "BadName" "thing" CB) (EK : ErrsK X.K CW CN CB) :
    GivesX X ["_law_ask", "e"] "_law_met" (defScope s_law_met) (defBody s_law_met) "_law_ask" q (TTmet CW CN CB) := by
  intro g cdg f c' s H Q tl act hc h
  have sc := sc_law_met
  refine ⟨_, pss_one (ps_try_asAll (X := (gcx X ["_law_ask", "e"] "_law_met" (defScope s_law_met) g cdg s H).nox) (n := "e") (i := 1) (Wout := fun _ _ _ _ => False)
      (l := [(.ref CW, clX X.K "weights" CW), (.ref CN, clX X.K "statement" CN), (.ref CB, clX X.K "name" CB)])
      (tb := fun W D σ H => ∃ Ech : XK, (∀ cls d (σ' : L2.St) H', σ'.length = 2 → Ech cls d H' → W cls d σ' H') ∧ σ[0]? = some (some (.ref f)) ∧ CodeIn q H c' ∧ tl Ech H (TellP "told" D.rt))
      rfl rfl sc.nd rfl (show (defScope s_law_met).names.lookup ("e" : Str) = some NameKind.local by decide +kernel) LamX.takes0 (fun W pn xe tk _ => ?_) ?_), ?_⟩
  · refine ⟨fun pins s' σ H' D I h' => ?_⟩
    obtain ⟨Ech, hW, h1, h2, h3⟩ := h'
    have hp := pss_one (ps_ret (pos := ⟨315, 8, 315, 35⟩) (pe_tup (x1 := 0) (pos := ⟨315, 15, 315, 35⟩) (pa_cons (pe_str (x := "told") (j := 0) (pos := ⟨315, 16, 315, 22⟩)) (pa_cons (act W pn xe Ech ⟨315, 24, 315, 32⟩ ⟨315, 24, 315, 34⟩ tk hW) pa_nil))))
    refine hp.run pins s' σ H' D I ⟨h1, h2, h3⟩
  · have one : ∀ {x nm : Str} {C : Addr} {p1 p2 p3 p4 p5 : Pos} {j k : Nat}, HasErr X.prog X.w X.K X.mg X.base x "thing" C → ∀ (a : Addr) (oe : Obj) (cls : Value) (d : Option Addr) (pn : List (Addr × Obj)), Zc cls d oe → (∃ vs, oe.data = .fields vs) →
        PSs ((gcx X ["_law_ask", "e"] "_law_met" (defScope s_law_met) g cdg s H).nox.suite a ((a, oe) :: pn)) [.Return (some (.Tuple [.Constant (.str nm) j p1, .Attribute (.Name "e" p2) "thing" p3] k p4)) p5] (clX X.K nm C a cls d) :=
      fun {x nm C p1 p2 p3 p4 p5 j k} h a oe cls d pn hz hf => pss_one (ps_ret (pe_tup (pa_cons pe_str (pa_cons (pe_xf (X := (gcx X ["_law_ask", "e"] "_law_met" (defScope s_law_met) g cdg s H).nox) (xfC_of h) h.nof hz hf (pv 1) rfl) pa_nil))))
    exact .cons ⟨rfl, by decide, .inl eW.mgC⟩ (one eW) (.cons ⟨rfl, by decide, .inl eN.mgC⟩ (one eN) (.cons ⟨rfl, by decide, .inl eB.mgC⟩ (one eB) .nil))
  · refine ⟨_, ?_, rfl, hc, h⟩
    have fin : ∀ {nm : Str} {C : Addr} {cls : Value} {d : Option Addr} {H' : Hp} {σ' : L2.St} {D : Ends}, D.rt = Q → σ'.length = 2 → Caught nm C Q cls d H' → ∀ a, H' a = none → clX X.K nm C a cls d D (σ'.set 1 (some (.ref a))) H' := by
      rintro nm C cls d H' σ' D rfl hl ⟨e, dd, fs, v, ed, eh, lk, q⟩ a ha
      exact ⟨.ref a, List.getElem?_set_self (by omega), rfl, e, dd, fs, v, ed, eh, lk, q⟩
    have ne : ∀ {C D : Addr} {nm : Str} {cls : Value} {d : Option Addr} {H' : Hp} {b : Bool}, PySem.W.exmOne X.K (.ref C) (.ref D) = some b → Caught nm C Q cls d H' → PySem.W.exmOne X.K cls (.ref D) = some b := fun {C D nm cls d H' b} e h => by rw [h.1]; exact e
    intro cls d σ' H' hl hc
    rcases hc with h1 | h1 | h1
    · exact ⟨true, ne EK.ww h1, fun _ => fin rfl hl h1, fun z => by cases z⟩
    · exact ⟨false, ne EK.nw h1, (fun z => by cases z), fun _ => ⟨true, ne EK.nn h1, fun _ => fin rfl hl h1, fun z => by cases z⟩⟩
    · exact ⟨false, ne EK.bw h1, (fun z => by cases z), fun _ => ⟨false, ne EK.bn h1, (fun z => by cases z), fun _ => ⟨true, ne EK.bb h1, fun _ => fin rfl hl h1, fun z => by cases z⟩⟩⟩
end
end K73
set_option maxRecDepth 100000
set_option maxHeartbeats 4000000
namespace K73
open Enc (At enc)
open PySem L2 Evl LamX
abbrev s_law_m_held : Stmt := top 57
theorem sc_law_m_held : FnScope ["_law_ask", "_law_thing", "_law_found"] ["_law_ask"] (defScope s_law_m_held) := ⟨rfl, rfl, rfl, by decide +kernel, rfl, by decide +kernel, by decide +kernel⟩
/-- the lambda gets a new list [None], and hands back a pair that ends with it; what is told behind it: a new tuple of that list, [None, 'late'] now -/
def TTheld : (V → Hp → VK → Prop) → Hp → VK → Prop := fun tl H Q => ∀ th, H th = none → ∀ Kp : VK, (∀ v H2 p nm, v = .ref p → H2 p = some (.tup [nm, .ref th]) → H2 th = some (.lst [.non]) →
  (∀ p2, upd H2 th (.lst [.non, .str "late"]) p2 = none → Q (.ref p2) (upd (upd H2 th (.lst [.non, .str "late"])) p2 (.tup [.ref th]))) → Kp v H2) → tl (.ref th) (upd H th (.lst [.non])) Kp
theorem gives_held {X : Cx} {q : Str} : GivesX1 X ["_law_ask", "_law_thing", "_law_found"] "_law_m_held" (defScope s_law_m_held) (defBody s_law_m_held) "_law_ask" q TTheld := by
  intro g cdg f c' s H Q tl act hc h
  have sc := sc_law_m_held
  refine ⟨_, pss_cons (ps_set (i := 1) sc.nd rfl (by first | exact Or.inl rfl | exact Or.inr rfl) (pe_lst (pa_cons pe_non pa_nil))) (pss_cons (ps_set (i := 2) sc.nd rfl (by first | exact Or.inl rfl | exact Or.inr rfl) (act _ _ _ _ _ (pa_cons (pv 1) pa_nil) rfl rfl))
    (pss_cons (ps_expr (pe_bmK X.K rfl PySem.F.plainAttrs_list PySem.F.slot_list_append PySem.F.type_list_append mt_append (pv 1) (pa_cons pe_str pa_nil)))
    (pss_one (ps_ret (pe_slice (sl_tupK X.K rfl) (pv 2) (po_some pe_int) po_none))))), ?_⟩
  refine ⟨(by show 1 ≤ sizeLine; decide), fun th hth => ?_⟩
  refine ⟨rfl, .ref th, rfl, .ref th, rfl, hc.ext (Ex.new hth), ?_⟩
  refine h th hth _ fun v H2 p nm ev hp ht k => ?_
  subst ev
  have hpt : p ≠ th := fun z => by rw [z, ht] at hp; cases hp
  refine ⟨.ref th, rfl, Or.inl ⟨rfl, _, SqL.of ht⟩, th, [.non], _, rfl, rfl, ht, by decide, ?_⟩

  refine ⟨.ref p, rfl, 1, rfl, p, _, rfl, SqT.of (xs := [nm, .ref th]) ?_, (show ¬ (HT.sIx 2 0 (some 1) = 0 ∧ HT.sIx 2 2 none = 2) by decide), k⟩
  rw [upd_ne hpt]
  exact hp
end K73
set_option maxRecDepth 100000
set_option maxHeartbeats 4000000
namespace K73
open Enc (At enc)
open PySem PySem.Spec PyProof.Rows L2 Evl LamX
/-! ### a local name that holds one of some defs, called -/
def tCallS (i : Nat) (S : Addr → Prop) (sp : Sp) (E : XK) (t : TA) : TE := fun σ H Q => ∃ f, σ[i]? = some (some (.ref f)) ∧ S f ∧ t σ H fun vs H1 => sp vs H1 Q E
theorem pe_callS {X : Cx} {CX : CXT} {k i : Nat} {x : Str} {sp : Sp} {E : XK} {t : TA} {S : Addr → Prop} {e : Expr} {es : List Expr} {p pos : Pos}
    (F : ∀ f, S f → ∃ (fd : FuncData) (ps : List Str), FnOk X.prog X.w X.K X.mg X.base CX k f fd ps sp ∧ PySem.W.keepIn X.K (.ref f) = true ∧ L2.Binds X.K fd ps []) (hr : Room k X.A) (hx : Passes CX X E) (ha : PA X (e :: es) t)
    (hN : X.N[i]? = some x := by rfl) (hv : Vis X.env.scope x := by first | exact Or.inl rfl | exact Or.inr (Or.inl rfl) | exact Or.inr (Or.inr rfl)) (hd : (x == ("__debug__" : Str)) = false := by decide) (hcd : (x == ("__classdict__" : Str)) = false := by decide)
    (he : starEach (e :: es) X.env = (false, eval e X.env) :: starEach es X.env := by rfl) (hpl : (backTo pos (starEach es X.env)).any (·.1) = false := by rfl) :
    PE X (.Call (.Name x p) (e :: es) [] pos) (tCallS i S sp E t) := by
  constructor
  rintro pins s σ H Q I ⟨f, hs, hS, ht⟩
  obtain ⟨fd, ps, ok, kp, b⟩ := F f hS
  refine wpAny_Call_Name_kw (thn ((pe_var (pos := p) hN hv hd hcd).run pins s σ H (fun v H1 => v = .ref f ∧ H1 = H) I ⟨.ref f, hs, rfl, rfl⟩) ?_)
  rintro u s1 ⟨v, H1, I1, r1, rfl, rfl⟩
  cases r1
  refine PySem.W.callWith_K (h₀ := X.base) I.ok.mod.kin kp (thn (ha.run pos pins s1 σ _ _ I1 ht) ?_) he hpl
  rintro us s2 ⟨vs, H2, I2, r, q⟩
  exact ⟨I2.kIn, run_fn ok hr b .nil hx I2 r (by rw [List.append_nil]; exact q)⟩
/-! ### the two calls with lambdas -/
section
variable {X : Cx} {Pre : Hp → Prop} {Post : Hp → Addr → Prop} {y : Str} {k : Nat} {params : Arguments} {body : Expr} {scope : Scope} {p lpos pos : Pos}
theorem pe_met {CW CN CB : Addr} {t : Addr → XK → TE} (mk : MkX X lpos Pre Post) (D : Def X.K X.mg "_law_met" s_law_met) (eW : HasErr X.prog X.w X.K X.mg X.base "BadWeights" "thing" CW) (eN : HasErr X.prog X.w X.K X.mg X.base "NoStatement" "thing" CN) (eB : HasErr X.prog X.w X.K X.mg X.base "BadName" "thing" CB) (EK : ErrsK X.K CW CN CB)
    (hr : Room (k + 2) X.A) (L : LamS X.env.scope scope) (hy : (y, NameKind.free) ∈ scope.names) (hdef : defaultsOf params X.env = ([], []))
    (hbind : ∀ (q : Str) (cl : List (Str × Addr)) (pm cv ctv : Value), bindArgs (PySem.W.kla_fn "<lambda>" q params body scope cl pm cv ctv) ⟨[], []⟩ = pure [])
    (hbody : ∀ (A : Around) (outer : List Env) (s : Shared) (H : Hp) (E : XK) (f c' : Addr), Room k (A.deeper (lamEnv X scope s.heap.objs.size f c')) → PE (lamCx X A outer s H E scope f c') body (t c' E)) (hg : Gl X "_law_met" := by rfl) :
    PE X (.Call (.Name "_law_met" p) [.Lambda params body scope lpos] [] pos) (tLamX Pre Post (TTmet CW CN CB) t) :=
  pe_lamX (a := "_law_ask") mk D (fun F => F.binds fun _ _ _ _ _ _ us hl => match us, hl with | [_], _ => rfl) sc_law_met (Or.inl rfl) (gives_met eW eN eB EK) hr L hy hdef hbind hbody hg
theorem pe_held {t : Addr → TE} {b : Str} (mk : MkX X lpos Pre Post) (D : Def X.K X.mg "_law_m_held" s_law_m_held) (hr : Room (k + 2) X.A) (L : LamS1 X.N X.env.scope scope b) (hy : (y, NameKind.free) ∈ scope.names) (hdef : defaultsOf params X.env = ([], []))
    (hbind : ∀ (q : Str) (cl : List (Str × Addr)) (pm cv ctv u : Value), bindArgs (PySem.W.kla_fn "<lambda>" q params body scope cl pm cv ctv) ⟨[u], []⟩ = pure [(b, u)])
    (hbody : ∀ (A : Around) (outer : List Env) (s : Shared) (H : Hp) (f c' : Addr), Room k (A.deeper (lamEnv1 X scope b s.heap.objs.size f c')) → PE (lamCx1 X A outer s H C8.E0 scope b f c') body (t c')) (hg : Gl X "_law_m_held" := by rfl) :
    PE X (.Call (.Name "_law_m_held" p) [.Lambda params body scope lpos] [] pos) (tLamX1 Pre Post TTheld t) :=
  pe_lamX1 (a := "_law_ask") mk D (fun F => F.binds fun _ _ _ _ _ _ us hl => match us, hl with | [_], _ => rfl) sc_law_m_held (Or.inl rfl) gives_held hr L hy hdef hbind hbody hg
end
end K73
set_option maxRecDepth 100000
set_option maxHeartbeats 4000000
namespace K73
open Enc (At enc)
open PySem L2 Evl LamX
abbrev s_law : Stmt := top 82
theorem sc_law : FnScope ["_law_script", "_law_stream", "_law_turn", "_law_names", "_law_pairs", "_law_weights", "_law_made", "_law_lists", "_law_lots", "_law_name", "_law_bad", "_law_none", "_law_wrong", "_law_found", "_law_due", "_law_ask", "_law_held", "_law_gone"] ["_law_script"] (defScope s_law) := ⟨rfl, rfl, rfl, by decide +kernel, rfl, by decide +kernel, by decide +kernel⟩
abbrev lawQ : Str := ("law" : Str) ++ ".<locals>." ++ "<lambda>"
abbrev lawQ2 : Str := lawQ ++ ".<locals>." ++ "<lambda>"
abbrev lawN : List Str := ["_law_script", "_law_stream", "_law_turn", "_law_names", "_law_pairs", "_law_weights", "_law_made", "_law_lists", "_law_lots", "_law_name", "_law_bad", "_law_none", "_law_wrong", "_law_found", "_law_due", "_law_ask", "_law_held", "_law_gone"]
def stG (l : List Stmt) (i : Nat) : Stmt := l.getD i (.Pass ⟨0, 0, 0, 0⟩)
def forB : Stmt → List Stmt
  | .For _ _ b _ _ => b
  | _ => []
abbrev lawFor : Stmt := stG (defBody s_law) 1
abbrev lawS (i : Nat) : Stmt := stG (forB lawFor) i
/-- what is asked of cheapest_rise and cheapest_fall where they raise -/
def sp_fail (C NS BW : Addr) : Sp := fun vs H Q E => ∃ (m : Addr) (ns : List Str) (ps : List Pr) (v u : V), vs = [.ref m, v, u] ∧ Deb C H m ns ps ∧
  ((BadW H v ps ∧ ∀ d, H d = none → E (.ref BW) (some d) (upd H d (.xd [("thing", v)]))) ∨
   (∃ wt, Wts H v ps wt ∧ NoSt H u ns ∧ ∀ d, H d = none → E (.ref NS) (some d) (upd H d (.xd [("thing", u)]))))
/-- what law rests on -/
structure LawH (P : Program) (w : World) (K : PySem.W.Frag) (mg : Str → Option Value) (base : Heap) (C NS BW BN c PT fR fF : Addr) : Prop where
  TB : TabB base mg c PT
  d_law_start : Has P w K mg base CX0 "_law_start" ["_law_script"] 1 (sp_law_start K)
  d_law_d_names : Has P w K mg base CX0 "_law_d_names" ["_law_stream", "_law_many"] 3 sp_law_d_names
  d_law_pick : Has P w K mg base CX0 "_law_pick" ["_law_stream", "_law_some"] 2 sp_law_pick
  d_law_draw : Has P w K mg base CX0 "_law_draw" ["_law_stream", "_law_many"] 1 sp_law_draw
  d_law_d_pairs : Has P w K mg base CX0 "_law_d_pairs" ["_law_stream", "_law_names"] 3 sp_law_d_pairs
  d_law_m_weights : Has P w K mg base CX0 "_law_m_weights" ["_law_stream", "_law_pairs"] 3 sp_law_m_weights
  d_Debate : HasMk P w K mg base C 5 (sp_init C)
  d_law_m_parts : Has P w K mg base CX0 "_law_m_parts" ["_law_things"] 1 (sp_all_parts Pr)
  d_law_least : Has P w K mg base CX0 "_law_least" ["_law_names", "_law_pairs"] 5 sp_law_least
  d_law_mixed : Has P w K mg base CX0 "_law_mixed" ["_law_stream", "_law_some"] 2 sp_law_mixed
  d_law_m_odd_weights : Has P w K mg base CX0 "_law_m_odd_weights" ["_law_stream", "_law_pairs", "_law_weights"] 3 sp_law_m_odd_weights
  d_law_loose : Has P w K mg base CX0 "_law_loose" ["_law_stream", "_law_thing"] 4 (sp_loose2)
  d_law_m_left : Has P w K mg base CX0 "_law_m_left" ["_law_pairs", "_law_gone"] 1 sp_law_m_left
  d_law_name_right : Has P w K mg base CX0 "_law_name_right" ["_law_names", "_law_pairs", "_law_weights", "_law_lists", "_law_lots", "_law_made", "_law_name"] 10 (sp_law_name_right C)
  d_law_answer_right : Has P w K mg base CX0 "_law_answer_right" ["_law_names", "_law_pairs", "_law_made", "_law_name"] 8 (sp_law_answer_right C)
  d_law_same : Has P w K mg base CX0 "_law_same" ["_law_found", "_law_due"] 8 (sp_same 6)
  d_with_answer : Has P w K mg base (L2.CX P w) "with_answer" ["debate", "statement", "name"] 7 (sp_with_answer C NS BN)
  d_met : Def K mg "_law_met" s_law_met
  d_held : Def K mg "_law_m_held" s_law_m_held
  eW : HasErr P w K mg base "BadWeights" "thing" BW
  eN : HasErr P w K mg base "NoStatement" "thing" NS
  eB : HasErr P w K mg base "BadName" "thing" BN
  EK : ErrsK K BW NS BN
  mR : mg "cheapest_rise" = some (.ref fR)
  mF : mg "cheapest_fall" = some (.ref fF)
  hAsk : ∀ f, f = fR ∨ f = fF → ∃ (fd : FuncData) (ps : List Str), FnOk P w K mg base (L2.CX P w) 9 f fd ps (sp_fail C NS BW) ∧ PySem.W.keepIn K (.ref f) = true ∧ L2.Binds K fd ps []
abbrev lawX (P : Program) (w : World) (K : PySem.W.Frag) (mg : Str → Option Value) (base : Heap) (c f : Addr) (A : Around) (outer : List Env) (s : Shared) (H : Hp) (E : XK) : Cx := (cxOf CX0 P w K mg base lawN "law" (defScope s_law) f (.ref c) A outer s H E).nox
section
variable {P : Program} {w : World} {K : PySem.W.Frag} {mg : Str → Option Value} {base : Heap} {C NS BW BN c PT fR fF f : Addr} {A : Around} {outer : List Env} {s : Shared} {H0 : Hp} {E : XK}
theorem lists_off {H : Hp} {st cl : Addr} {B : Nat} (S : Stm H st cl B) : ∀ {vs : List V} {xs : List (List Pr)}, Each H vs xs → (∀ v ∈ vs, ∃ l, v = V.ref l ∧ l ≠ st ∧ l ≠ cl) → Each (off st cl H) vs xs
  | _, _, .nil, _ => .nil
  | _, _, .cons ⟨p, ws, e, hp, hE⟩ t, h => by
    refine .cons ?_ (lists_off S t fun v hv => h v (List.mem_cons_of_mem _ hv))
    obtain ⟨l, e2, h1, h2⟩ := h _ List.mem_cons_self
    rw [e] at e2
    cases e2
    exact ⟨p, ws, e, by rw [off_ne h1 h2]; exact hp, each_off S hE⟩
/-- a list of texts that is new from H -/
def LtR (H : Hp) : Rel (List Str) := fun G v y => ∃ l, v = V.ref l ∧ H l = none ∧ G l = some (.lst (y.map V.str)) ∧ ∀ x ∈ y, PyData.strOk x = true
theorem ltr_stays {H : Hp} : Stays (LtR H) := ⟨fun _ _ _ _ e ⟨l, h1, h2, h3, h4⟩ => ⟨l, h1, h2, e _ _ h3, h4⟩⟩
theorem ltr_off {H G : Hp} {st cl : Addr} {B : Nat} (S : Stm H st cl B) (e : Ex H G) : ∀ {vs : List V} {ys : List (List Str)}, Paired (LtR H G) vs ys → Each (off st cl G) vs ys
  | _, _, .nil => .nil
  | _, _, .cons ⟨l, e1, hn, hl, ho⟩ t => by
    obtain ⟨_, cs, n1, n2, n3, hst, hcl, _⟩ := id S
    refine .cons ⟨l, _, e1, ?_, strs_each ho⟩ (ltr_off S e t)
    rw [off_ne (fun z => by rw [z, hst] at hn; cases hn) fun z => by rw [z, hcl] at hn; cases hn]
    exact hl
theorem filterMap_eq_map' {α β : Type} {f : α → β} : ∀ l : List α, l.filterMap (fun x => some (f x)) = l.map f
  | [] => rfl
  | x :: l => by simp
theorem cut_upto (xs : List V) (i : Nat) : cutV xs none (some (i : Int)) = xs.take i := by
  by_cases h : i ≤ xs.length
  · exact cut_take xs i h
  · unfold cutV
    rw [HT.sIx_none, HT.sIx_nat, List.drop_zero, Nat.sub_zero, Nat.min_eq_right (by omega), List.take_length, List.take_of_length_le (by omega)]
theorem law_s0 (T : Txt K mg) (L : LawH P w K mg base C NS BW BN c PT fR fF) (hr : Room 12 (lawX P w K mg base c f A outer s H0 E).A) : ∃ t, PS (lawX P w K mg base c f A outer s H0 E) (lawS 0) t ∧
    ∀ (D : Ends) (a st cl : Addr) (B i : Nat) (o3 o4 o5 o6 o7 o8 o9 o10 o11 o12 o13 o14 o15 o16 : Option V) (H : Hp), Stm H st cl B → B + 100000 < 2 ^ 40 →
      (∀ (an : Addr) (ns : List Str) (H' : Hp), Ex (off st cl H) H' → Stm H' st cl (B + 1001) → (off st cl H') an = some (.lst (ns.map V.str)) → ns.Nodup → (∀ x ∈ ns, x ∈ nm10) → ns.length ≤ 7 →
        D.nx [some (.ref a), some (.ref st), some (.int i), some (.ref an), o4, o5, o6, o7, o8, o9, o10, o11, o12, o13, o14, o15, o16, none] H') →
      t D [some (.ref a), some (.ref st), some (.int i), o3, o4, o5, o6, o7, o8, o9, o10, o11, o12, o13, o14, o15, o16, none] H := by
  have sc := sc_law
  refine ⟨_, ((ps_set (i := 3) sc.nd rfl (by first | exact Or.inl rfl | exact Or.inr rfl) (pe_has L.d_law_d_names (hr.mono (by decide)) pass0 (by exact (pa_cons (pv 1) (pa_cons (pe_has L.d_law_draw (hr.mono (by decide)) pass0 (by exact (pa_cons (pv 1) (pa_cons (pe_ifExp (pt_cmpR op_eq (pv 2) pe_int (nomark _)) pe_int pe_int) pa_nil)))) pa_nil)))))), fun D a st cl B i o3 o4 o5 o6 o7 o8 o9 o10 o11 o12 o13 o14 o15 o16 H S hB k => ?_⟩
  have fin : ∀ n : Int, 0 < n → n ≤ 8 → sp_law_draw [.ref st, .int n] H (fun x H1 => sp_law_d_names [.ref st, x] H1 (fun y H2 => D.nx [some (.ref a), some (.ref st), some (.int i), some y, o4, o5, o6, o7, o8, o9, o10, o11, o12, o13, o14, o15, o16, none] H2) E0) E0 := by
    intro n h0 h8
    refine ⟨st, cl, B, n, rfl, S, by omega, h0, by omega, fun H1 r e1 S1 r0 r1 => ?_⟩
    obtain ⟨m, rfl⟩ := Int.eq_ofNat_of_zero_le r0
    exact ⟨st, cl, B + 1, m, rfl, S1, by omega, by omega, fun p ns H2 hp e2 S2 hl nd mem hlen => k p ns H2 ((off_up e1).trans e2) (S2.le (by omega)) hl nd mem (by omega)⟩
  refine ⟨.ref st, rfl, .ref st, rfl, .int i, rfl, rfl, _, rfl, ?_⟩
  by_cases hi : V.int (i : Int) = V.int 0
  · exact iteD hi (fin 8 (by decide) (by decide))
  · exact iteDn hi (fin 5 (by decide) (by decide))
theorem law_s1 (T : Txt K mg) (L : LawH P w K mg base C NS BW BN c PT fR fF) (hr : Room 12 (lawX P w K mg base c f A outer s H0 E).A) : ∃ t, PS (lawX P w K mg base c f A outer s H0 E) (lawS 1) t ∧
    ∀ (D : Ends) (a st cl an : Addr) (B i : Nat) (ns : List Str) (o4 o5 o6 o7 o8 o9 o10 o11 o12 o13 o14 o15 o16 : Option V) (H : Hp), Stm H st cl B → B + 90000 < 2 ^ 40 → (off st cl H) an = some (.lst (ns.map V.str)) → (∀ x ∈ ns, x ∈ nm10) → ns.length ≤ 7 →
      (∀ (ap : Addr) (ps : List Pr) (H' : Hp), Ex (off st cl H) H' → Stm H' st cl (B + 4000) → At (off st cl H') (.ref ap) ps → ps.Nodup → (∀ p ∈ ps, p.1 ∈ ns ∧ p.2 ∈ ns) → ps.length ≤ 8 →
        D.nx [some (.ref a), some (.ref st), some (.int i), some (.ref an), some (.ref ap), o5, o6, o7, o8, o9, o10, o11, o12, o13, o14, o15, o16, none] H') →
      t D [some (.ref a), some (.ref st), some (.int i), some (.ref an), o4, o5, o6, o7, o8, o9, o10, o11, o12, o13, o14, o15, o16, none] H := by
  have sc := sc_law
  refine ⟨_, ((ps_set (i := 4) sc.nd rfl (by first | exact Or.inl rfl | exact Or.inr rfl) (pe_slice (sl_listK K rfl) (pe_has L.d_law_d_pairs (hr.mono (by decide)) pass0 (by exact (pa_cons (pv 1) (pa_cons (pv 3) pa_nil)))) po_none (po_some (pe_ifExp (pt_cmpR op_eq (pv 2) pe_int (nomark _)) pe_int pe_int))))), fun D a st cl an B i ns o4 o5 o6 o7 o8 o9 o10 o11 o12 o13 o14 o15 o16 H S hB ha mem hl k => ?_⟩
  refine ⟨.ref st, rfl, .ref an, rfl, st, cl, B, an, ns, rfl, S, by omega, ha, fun x hx => nm10_nm x (mem x hx), by omega, fun p ps H1 hp e1 S1 hat nd hm => ?_⟩
  obtain ⟨q0, vs, eq, hvs, hE⟩ := hat
  cases eq
  have fin : ∀ n : Nat, n ≤ 8 → rSlL K (.ref p) none (some (n : Int)) H1 fun x H2 => D.nx [some (.ref a), some (.ref st), some (.int i), some (.ref an), some x, o5, o6, o7, o8, o9, o10, o11, o12, o13, o14, o15, o16, none] H2 := by
    intro n hn
    refine ⟨p, vs, rfl, SqL.of (off_sub _ _ hvs), fun p2 hp2 => ?_⟩
    rw [cut_upto]
    have nw := S1.new hp2 (o := .lst (vs.take n))
    exact k p2 (ps.take n) _ (e1.trans (Ex.new hp2)) (S1.mono (Ex.new hp2)) (at_list nw.2 ((hE.take n).mono nw.1)) (nd.sublist (List.take_sublist _ _)) (fun q hq => hm q (List.mem_of_mem_take hq)) (by rw [List.length_take]; omega)
  refine ⟨.int i, rfl, rfl, _, rfl, ?_⟩
  by_cases hi : V.int (i : Int) = V.int 0
  · exact iteD hi ⟨8, rfl, fin 8 (by decide)⟩
  · exact iteDn hi ⟨6, rfl, fin 6 (by decide)⟩
theorem law_s2 (T : Txt K mg) (L : LawH P w K mg base C NS BW BN c PT fR fF) (hr : Room 12 (lawX P w K mg base c f A outer s H0 E).A) : ∃ t, PS (lawX P w K mg base c f A outer s H0 E) (lawS 2) t ∧
    ∀ (D : Ends) (a st cl an ap : Addr) (B i : Nat) (ns : List Str) (ps : List Pr) (o5 o6 o7 o8 o9 o10 o11 o12 o13 o14 o15 o16 : Option V) (H : Hp), Stm H st cl B → B + 80000 < 2 ^ 40 → (off st cl H) an = some (.lst (ns.map V.str)) → ns.Nodup → (∀ x ∈ ns, x ∈ nm10) → ns.length ≤ 7 →
      At (off st cl H) (.ref ap) ps → ps.Nodup → (∀ p ∈ ps, p.1 ∈ ns ∧ p.2 ∈ ns) → ps.length ≤ 8 →
      (∀ (wb m : Addr) (qs : List Pr) (wt : Pr → Int) (H' : Hp), Ex (off st cl H) H' → Stm H' st cl (B + 4000) → (off st cl H') wb = some (.dT (wkv qs wt)) → qs.Perm ps → (∀ q, 1 ≤ wt q) → Deb C (off st cl H') m (srt ns) (srt ps) →
        D.nx [some (.ref a), some (.ref st), some (.int i), some (.ref an), some (.ref ap), some (.ref wb), some (.ref m), o7, o8, o9, o10, o11, o12, o13, o14, o15, o16, none] H') →
      t D [some (.ref a), some (.ref st), some (.int i), some (.ref an), some (.ref ap), o5, o6, o7, o8, o9, o10, o11, o12, o13, o14, o15, o16, none] H := by
  have sc := sc_law
  refine ⟨_, ((ps_asg (pe_tup (pa_cons (pe_has L.d_law_m_weights (hr.mono (by decide)) pass0 (by exact (pa_cons (pv 1) (pa_cons (pv 4) pa_nil)))) (pa_cons (pe_hasMk L.d_Debate (hr.mono (by decide)) pass0 (by exact (pa_cons (pv 3) (pa_cons (pe_has L.d_law_loose (hr.mono (by decide)) pass0 (by exact (pa_cons (pv 1) (pa_cons (pv 4) pa_nil)))) pa_nil)))) pa_nil))) (pg_tupK (n := 2) K rfl rfl (pgs_cons (pg_name (i := 5) sc.nd rfl (by first | exact Or.inl rfl | exact Or.inr rfl)) (pgs_cons (pg_name (i := 6) sc.nd rfl (by first | exact Or.inl rfl | exact Or.inr rfl)) pgs_nil))))), fun D a st cl an ap B i ns ps o5 o6 o7 o8 o9 o10 o11 o12 o13 o14 o15 o16 H S hB ha nd mem hl hat ndp hm hlp k => ?_⟩
  refine ⟨.ref st, rfl, .ref ap, rfl, st, cl, B, ap, ps, rfl, S, by omega, hat, ndp, by omega, fun wb qs wt H1 hwb e1 S1 hw pm w1 => ?_⟩
  have hat1 := Enc.mono (off_up e1) hat
  refine ⟨.ref an, rfl, .ref st, rfl, .ref ap, rfl, st, cl, B + 3000, .ref ap, ps, rfl, S1, by omega, hat1, by omega, fun u H2 e2 S2 hu => ?_⟩
  have e12 := (off_up e1).trans e2
  intro x dx hx hdx hne
  have eM := made_ex (C := C) hx hdx hne
  have eI : Ex H2 (upd (upd H2 dx (.own x)) x (.ins C dx [])) := eM.trans del_sub
  refine ⟨x, dx, an, u, ns, ps, rfl, upd_same, eI _ _ (e12 _ _ ha), nd, fun n hn => nm10_nm n (mem n hn), by omega, ll_stays.go _ _ _ _ (off_sub.trans eM) hu, ndp, hm, by omega, fun H3 e3 dH => ⟨rfl, ?_⟩⟩
  have e23 := eM.trans e3
  have S3 := S2.mono e23
  have hS := S2
  obtain ⟨hsc, cs, n1, n2, n3, hst, hcl, _⟩ := hS
  have dm : Deb C (off st cl H3) x (srt ns) (srt ps) := dH _ (fun b o hb ho => by
    have b1 : b ≠ st := fun z => by rw [z, eM _ _ hst] at hb; cases hb
    have b2 : b ≠ cl := fun z => by rw [z, eM _ _ hcl] at hb; cases hb
    rw [off_ne b1 b2]
    exact ho) fun b xs hb => (view_off S3).tup b xs hb
  refine ⟨(by show 2 ≤ sizeLine; decide), fun p hp => ⟨p, _, rfl, SqT.of upd_same, rfl, _, _, rfl, _, _, rfl, ⟨rfl, ?_⟩⟩⟩
  have nw := S3.new hp (o := .tup [.ref wb, .ref x])
  exact k wb x qs wt _ (e12.trans (e23.trans (Ex.new hp))) ((S3.mono (Ex.new hp)).le (by omega)) (nw.1 _ _ (off_mono e23 _ _ (off_up e2 _ _ hw))) pm w1 (dm.mono nw.1)
theorem law_s3 (T : Txt K mg) (L : LawH P w K mg base C NS BW BN c PT fR fF) (hr : Room 12 (lawX P w K mg base c f A outer s H0 E).A) : ∃ t, PS (lawX P w K mg base c f A outer s H0 E) (lawS 3) t ∧
    ∀ (D : Ends) (a st cl an ap wb m : Addr) (B i : Nat) (ps : List Pr) (o7 o8 o9 o10 o11 o12 o13 o14 o15 o16 : Option V) (H : Hp), Stm H st cl B → At (off st cl H) (.ref ap) ps → ps.length ≤ 8 →
      (∀ (al : Addr) (H' : Hp), Ex H H' → At (off st cl H') (.ref al) (srt (allP (srt ps))) → D.nx [some (.ref a), some (.ref st), some (.int i), some (.ref an), some (.ref ap), some (.ref wb), some (.ref m), some (.ref al), o8, o9, o10, o11, o12, o13, o14, o15, o16, none] H') →
      t D [some (.ref a), some (.ref st), some (.int i), some (.ref an), some (.ref ap), some (.ref wb), some (.ref m), o7, o8, o9, o10, o11, o12, o13, o14, o15, o16, none] H := by
  have sc := sc_law
  refine ⟨_, ((ps_set (i := 7) sc.nd rfl (by first | exact Or.inl rfl | exact Or.inr rfl) (pe_callB (cr_srtM (α := List Pr) (by decide) (hu64 hr)) (by rfl) T.b_sorted (by decide +kernel) (pa_cons (pe_has L.d_law_m_parts (hr.mono (by decide)) pass0 (by exact (pa_cons (pe_callB (cr_srt (α := Pr) (by decide) (hu64 hr)) (by rfl) T.b_sorted (by decide +kernel) (pa_cons (pv 4) pa_nil)) pa_nil))) pa_nil)))), fun D a st cl an ap wb m B i ps o7 o8 o9 o10 o11 o12 o13 o14 o15 o16 H S hat hlp k => ?_⟩
  refine ⟨_, rfl, _, ps, rfl, Enc.mono off_sub hat, fun p1 ws1 hp1 he1 => ⟨_, srt ps, rfl, at_list upd_same (Each.mono (Ex.new hp1) he1), by rw [srt_length]; omega, fun p2 vs H2 hp2 e2 h2 hE hnew => ⟨p2, vs, _, rfl, h2, hE, fun p3 ws hp3 he3 hin => ?_⟩⟩⟩
  have e1 : Ex H (upd H p1 (.lst ws1)) := Ex.new hp1
  have e02 := e1.trans e2
  have e03 : Ex H (upd H2 p3 (.lst ws)) := e02.trans (Ex.new hp3)
  have S2 := S.mono e02
  have nw := S2.new hp3 (o := .lst ws)
  refine k p3 _ e03 (at_list nw.2 (Each.mono nw.1 (lists_off S2 he3 fun w hw => ?_)))
  obtain ⟨l, e, hl⟩ := hnew w (hin w hw)
  obtain ⟨hsc, cs, n1, n2, n3, hst, hcl, _⟩ := S
  have nl : ∀ b, H b ≠ none → l ≠ b := fun b hb z => hb (by rw [← z]; exact fresh_back e1 hl)
  exact ⟨l, e, nl st (by rw [hst]; simp), nl cl (by rw [hcl]; simp)⟩
theorem law_s4 (T : Txt K mg) (L : LawH P w K mg base C NS BW BN c PT fR fF) (hr : Room 12 (lawX P w K mg base c f A outer s H0 E).A) : ∃ t, PS (lawX P w K mg base c f A outer s H0 E) (lawS 4) t ∧
    ∀ (D : Ends) (a st cl an ap wb m al : Addr) (B i : Nat) (ns : List Str) (ps : List Pr) (o8 o9 o10 o11 o12 o13 o14 o15 o16 : Option V) (H : Hp), Stm H st cl B → (off st cl H) an = some (.lst (ns.map V.str)) → (∀ x ∈ ns, x ∈ nm10) → ns.length ≤ 7 → At (off st cl H) (.ref ap) ps → ps.length ≤ 8 → At (off st cl H) (.ref al) (srt (allP (srt ps))) →
      (∀ (ao : Addr) (H' : Hp), Ex H H' → At (off st cl H') (.ref ao) ((srt (allP (srt ps))).map fun g => leastL (srt ns) (left ps g)) → D.nx [some (.ref a), some (.ref st), some (.int i), some (.ref an), some (.ref ap), some (.ref wb), some (.ref m), some (.ref al), some (.ref ao), o9, o10, o11, o12, o13, o14, o15, o16, none] H') →
      t D [some (.ref a), some (.ref st), some (.int i), some (.ref an), some (.ref ap), some (.ref wb), some (.ref m), some (.ref al), o8, o9, o10, o11, o12, o13, o14, o15, o16, none] H := by
  have sc := sc_law
  refine ⟨_, ((ps_setLc (i := 8) (own := [("_law_gone", 17)]) rfl sc.nd rfl rfl (sw_true rfl rfl rfl (by decide +kernel)) (pi_listK K rfl (pv 7)) (blkOk_by (own := [("_law_gone", 17)]) (N := ["_law_script", "_law_stream", "_law_turn", "_law_names", "_law_pairs", "_law_weights", "_law_made", "_law_lists", "_law_lots", "_law_name", "_law_bad", "_law_none", "_law_wrong", "_law_found", "_law_due", "_law_ask", "_law_held", "_law_gone"]) (sc := defScope s_law) (by decide +kernel)) (fun _ _ _ _ _ => (pg_name (i := 17) sc.nd rfl (by first | exact Or.inl rfl | exact Or.inr rfl))) (fun _ _ _ _ _ => pts_nil) (fun _ _ _ _ _ => (pe_has L.d_law_least (hr.mono (by decide)) pass0 (by exact (pa_cons (pv 3) (pa_cons (pe_has L.d_law_m_left (hr.mono (by decide)) pass0 (by exact (pa_cons (pv 4) (pa_cons (pv 17) pa_nil)))) pa_nil))))))), fun D a st cl an ap wb m al B i ns ps o8 o9 o10 o11 o12 o13 o14 o15 o16 H S ha mem hln hat hlp hal k => ?_⟩
  have nms : Nms ns := fun x hx => nm10_nm x (mem x hx)
  obtain ⟨al', vs, eal, hvs, hE⟩ := Enc.mono off_sub hal
  cases eal
  have ll : (srt (allP (srt ps))).length ≤ 256 := by
    have h := allP_len (srt ps)
    rw [srt_length] at h ⊢
    exact Nat.le_trans h (Nat.le_trans (Nat.pow_le_pow_right (by decide) hlp) (by decide))
  refine ⟨.ref al, rfl, al, rfl, ⟨_, SqL.of hvs⟩, fun Dd hD => lcL (R := (At : Rel (List Pr))) (S := LtR H) (f := fun g => some (leastL (srt ns) (left ps g))) at_stays ltr_stays (fun _ e => SqL.of (e _ _ hvs)) hE hD (by omega) (fun v g H2 e2 hv hg Kn Ky kn ky => ?_) (fun H2 md => ?_)⟩
  · obtain ⟨b, us, rfl, hb, hU⟩ := hv
    have at2 : At H2 (.ref ap) ps := Enc.mono e2 (Enc.mono off_sub hat)
    refine ⟨rfl, .ref an, rfl, .ref ap, rfl, .ref b, rfl, ap, b, ps, g, rfl, at2, at_list hb hU, by omega, fun p3 H3 hp3 e3 hat3 => ⟨an, p3, ns, _, rfl, nms.at_ (e3 _ _ (e2 _ _ (off_sub _ _ ha))), hat3, ?_, by omega, fun p4 H4 hp4 e4 hat4 => ?_⟩⟩
    · exact Nat.le_trans (List.length_filter_le _ _) (by omega)
    · obtain ⟨p4', ws, e4', hws, hW⟩ := hat4
      cases e4'
      refine ky _ _ H4 (e3.trans e4) rfl fun G eG gr => ⟨p4, rfl, fresh_back ((e2.trans e3)) hp4, ?_, each_ok hW⟩
      rw [each_strs hW] at hws
      exact gr _ _ (fresh_back e3 hp4) hws
  · obtain ⟨hn, ex, ws, hDd, hW⟩ := md
    rw [filterMap_eq_map'] at hW
    have hW' := paired_imp (fun _ _ h => (ltr_stays (H := H)).go _ _ _ _ del_sub h) hW
    obtain ⟨_, cs, n1, n2, n3, hst, hcl, _⟩ := id S
    refine k Dd H2 ex (at_list ?_ (ltr_off S ex hW'))
    rw [off_ne (fun z => by rw [z, hst] at hn; cases hn) fun z => by rw [z, hcl] at hn; cases hn]
    exact hDd
theorem law_s5 (T : Txt K mg) (L : LawH P w K mg base C NS BW BN c PT fR fF) (hr : Room 12 (lawX P w K mg base c f A outer s H0 E).A) : ∃ t, PS (lawX P w K mg base c f A outer s H0 E) (lawS 5) t ∧
    ∀ (D : Ends) (a st cl an ap wb m al ao : Addr) (B i : Nat) (ns : List Str) (ps qs : List Pr) (wt : Pr → Int) (o9 o10 o11 o12 o13 o14 o15 o16 : Option V) (H : Hp), Stm H st cl B → B + 70000 < 2 ^ 40 → (off st cl H) an = some (.lst (ns.map V.str)) → (∀ x ∈ ns, x ∈ nm10) → ns.length ≤ 7 →
      At (off st cl H) (.ref ap) ps → ps.length ≤ 8 → (off st cl H) wb = some (.dT (wkv qs wt)) → qs.Perm ps → (∀ q, 1 ≤ wt q) → Deb C (off st cl H) m (srt ns) (srt ps) →
      At (off st cl H) (.ref al) (srt (allP (srt ps))) → At (off st cl H) (.ref ao) ((srt (allP (srt ps))).map fun g => leastL (srt ns) (left ps g)) →
      (∀ (o9 : Option V) (H' : Hp), Ex (off st cl H) H' → Stm H' st cl (B + 1000) → D.nx [some (.ref a), some (.ref st), some (.int i), some (.ref an), some (.ref ap), some (.ref wb), some (.ref m), some (.ref al), some (.ref ao), o9, o10, o11, o12, o13, o14, o15, o16, none] H') →
      t D [some (.ref a), some (.ref st), some (.int i), some (.ref an), some (.ref ap), some (.ref wb), some (.ref m), some (.ref al), some (.ref ao), o9, o10, o11, o12, o13, o14, o15, o16, none] H := by
  have sc := sc_law
  refine ⟨_, ((ps_for PassesOwn.never rfl (pi_listK K rfl (pe_slice (sl_listK K rfl) (pe_has L.d_law_mixed (hr.mono (by decide)) pass0 (by exact (pa_cons (pv 1) (pa_cons (pv 3) pa_nil)))) po_none (po_some pe_int))) (pg_name (i := 9) sc.nd rfl (by first | exact Or.inl rfl | exact Or.inr rfl))
      (pss_cons (ps_if (pt_not (pt_val (pe_has L.d_law_name_right (hr.mono (by decide)) pass0 (by exact (pa_cons (pv 3) (pa_cons (pv 4) (pa_cons (pv 5) (pa_cons (pv 7) (pa_cons (pv 8) (pa_cons (pv 6) (pa_cons (pv 9) pa_nil)))))))))))
        (pss_one (ps_ret pe_bl))
        pss_nil)
      (pss_one (ps_if (pt_not (pt_val (pe_has L.d_law_answer_right (hr.mono (by decide)) pass0 (by exact (pa_cons (pv 3) (pa_cons (pv 4) (pa_cons (pv 6) (pa_cons (pv 9) pa_nil))))))))
        (pss_one (ps_ret pe_bl))
        pss_nil))))), fun D a st cl an ap wb m al ao B i ns ps qs wt o9 o10 o11 o12 o13 o14 o15 o16 H S hB ha mem hln hat hlp hwb hpm hw1 dm hal hao k => ?_⟩
  refine ⟨.ref st, rfl, .ref an, rfl, st, cl, B, an, ns.map V.str, rfl, S, by omega, ha, by rw [List.length_map]; omega, fun p ys H1 hp e1 S1 hy perm => ?_⟩
  have inS : ∀ v ∈ ys, ∃ x ∈ ns, v = V.str x := fun v hv => by
    obtain ⟨x, hx, e⟩ := List.mem_map.mp (perm.mem_iff.mp hv)
    exact ⟨x, hx, e.symm⟩
  refine ⟨3, rfl, p, ys, rfl, SqL.of (off_sub _ _ hy), fun p3 hp3 => ?_⟩
  rw [show cutV ys none (some 3) = ys.take 3 from cut_upto ys 3]
  have nw := S1.new hp3 (o := .lst (ys.take 3))
  have G0 := (off_up e1).trans nw.1
  have S3 := S1.mono (Ex.new (o := .lst (ys.take 3)) hp3)
  have hL := nw.2
  generalize upd H1 p3 (.lst (ys.take 3)) = H3 at G0 S3 hL
  refine ⟨p3, rfl, ⟨_, SqL.of (off_sub _ _ hL)⟩, forG (ys.take 3).length (fun _ σ H' => (∃ o9, σ = [some (.ref a), some (.ref st), some (.int i), some (.ref an), some (.ref ap), some (.ref wb), some (.ref m), some (.ref al), some (.ref ao), o9, o10, o11, o12, o13, o14, o15, o16, none]) ∧ Ex H3 H') ⟨⟨_, rfl⟩, Ex.refl _⟩ (fun j σ H' hj ⟨_, e⟩ => ⟨_, (ys.take 3)[j], SqL.of (e _ _ (off_sub _ _ hL)), List.getElem?_eq_getElem hj⟩) (fun σ H' ⟨_, e⟩ => ⟨_, SqL.of (e _ _ (off_sub _ _ hL)), Nat.le_refl _⟩) ?_ ?_⟩
  · rintro j σ H' x H2 hj ⟨⟨u9, rfl⟩, e⟩ ⟨rfl, hx⟩
    obtain ⟨nm, hnm, rfl⟩ := inS x (List.mem_of_mem_take (List.mem_of_getElem? (hx _ (SqL.of (e _ _ (off_sub _ _ hL))))))
    have eG : Ex (off st cl H) H2 := (G0.trans off_sub).trans e
    have hw : Wts H2 (.ref wb) ps wt := wkv_wts (eG _ _ hwb) hpm fun q _ => hw1 q
    have fr : freshW ∉ ns := fun h => absurd (mem _ h) (by decide +kernel)
    refine ⟨.ref an, rfl, .ref ap, rfl, .ref wb, rfl, .ref al, rfl, .ref ao, rfl, .ref m, rfl, .str nm, rfl, an, ap, al, ao, m, .ref wb, ns, ps, wt, nm, rfl, Enc.mono eG hat, hw, Enc.mono eG hal, Enc.mono eG hao, dm.mono eG, hnm, by omega, by omega, fun H4 e4 => ?_⟩
    have e24 := eG.trans e4
    have nms : Nms ns := fun x hx => nm10_nm x (mem x hx)
    refine ⟨true, rfl, iteF ⟨.ref an, rfl, .ref ap, rfl, .ref m, rfl, .str nm, rfl, an, ap, m, ns, ps, nm, rfl, nms.at_ (e24 _ _ ha), Enc.mono e24 hat, dm.mono e24, hnm, fr, by omega, by omega, fun H5 e5 => ⟨true, rfl, iteF ⟨⟨_, rfl⟩, (e.trans e4).trans e5⟩⟩⟩⟩
  · rintro σ H' ⟨⟨u9, rfl⟩, e⟩
    exact k u9 H' ((G0.trans off_sub).trans e) ((S3.mono e).le (by omega))
theorem law_s6 (T : Txt K mg) (L : LawH P w K mg base C NS BW BN c PT fR fF) (hr : Room 12 (lawX P w K mg base c f A outer s H0 E).A) : ∃ t, PS (lawX P w K mg base c f A outer s H0 E) (lawS 6) t ∧
    ∀ (D : Ends) (a st cl an ap wb m al ao : Addr) (B i : Nat) (ns : List Str) (ps qs : List Pr) (wt : Pr → Int) (o9 o10 o11 o12 o13 o14 o15 o16 : Option V) (H : Hp), Stm H st cl B → B + 60000 < 2 ^ 40 → (∀ x ∈ ns, x ∈ nm10) →
      At (off st cl H) (.ref ap) ps → ps.length ≤ 8 → (off st cl H) wb = some (.dT (wkv qs wt)) → qs.Perm ps →
      (∀ (bad non : V) (H' : Hp), Ex (off st cl H) H' → Stm H' st cl (B + 10) → BadW (off st cl H') bad ps → (∃ t, TrAt (off st cl H') 4 bad t) → NoSt (off st cl H') non (srt ns) → (∃ t, TrAt (off st cl H') 4 non t) → D.nx [some (.ref a), some (.ref st), some (.int i), some (.ref an), some (.ref ap), some (.ref wb), some (.ref m), some (.ref al), some (.ref ao), o9, some (bad), some (non), o12, o13, o14, o15, o16, none] H') →
      t D [some (.ref a), some (.ref st), some (.int i), some (.ref an), some (.ref ap), some (.ref wb), some (.ref m), some (.ref al), some (.ref ao), o9, o10, o11, o12, o13, o14, o15, o16, none] H := by
  have sc := sc_law
  refine ⟨_, ((ps_asg (pe_tup (pa_cons (pe_has L.d_law_m_odd_weights (hr.mono (by decide)) pass0 (by exact (pa_cons (pv 1) (pa_cons (pv 4) (pa_cons (pv 5) pa_nil))))) (pa_cons (pe_has L.d_law_pick (hr.mono (by decide)) pass0 (by exact (pa_cons (pv 1) (pa_cons (pe_lst (pa_cons pe_non (pa_cons pe_int (pa_cons pe_str (pa_cons (pe_lst pa_nil) (pa_cons pe_bl (pa_cons (pe_tup (pa_cons pe_str pa_nil)) pa_nil))))))) pa_nil)))) pa_nil))) (pg_tupK (n := 2) K rfl rfl (pgs_cons (pg_name (i := 10) sc.nd rfl (by first | exact Or.inl rfl | exact Or.inr rfl)) (pgs_cons (pg_name (i := 11) sc.nd rfl (by first | exact Or.inl rfl | exact Or.inr rfl)) pgs_nil))))), fun D a st cl an ap wb m al ao B i ns ps qs wt o9 o10 o11 o12 o13 o14 o15 o16 H S hB mem hat hlp hwb hpm k => ?_⟩
  refine ⟨.ref st, rfl, .ref ap, rfl, .ref wb, rfl, st, cl, B, ap, wb, ps, qs, wt, rfl, S, by omega, hat, by omega, hwb, hpm, fun bad tb H1 e1 S1 bw trb => ?_⟩
  refine ⟨.ref st, rfl, Nat.zero_le _, fun l1 hl1 => ⟨(by show 1 ≤ sizeLine; decide), fun t1 ht1 => ⟨(by show 6 ≤ sizeLine; decide), fun p3 hp3 => ?_⟩⟩⟩
  have w2 := S1.new hl1 (o := .lst [])
  have S2 := S1.mono (Ex.new (o := .lst []) hl1)
  generalize upd H1 l1 (.lst []) = H2 at w2 S2 ht1 hp3 ⊢
  have w3 := S2.new ht1 (o := .tup [.str "a"])
  have S3 := S2.mono (Ex.new (o := .tup [.str "a"]) ht1)
  generalize upd H2 t1 (.tup [.str "a"]) = H3 at w3 S3 hp3 ⊢
  have w4 := S3.new hp3 (o := .lst [.non, .int 5, .str "none", .ref l1, .bl true, .ref t1])
  have S4 := S3.mono (Ex.new (o := .lst [.non, .int 5, .str "none", .ref l1, .bl true, .ref t1]) hp3)
  generalize upd H3 p3 (.lst [.non, .int 5, .str "none", .ref l1, .bl true, .ref t1]) = H4 at w4 S4 ⊢
  refine ⟨st, cl, B + 2, p3, _, rfl, S4, by omega, w4.2, by simp, (by show (6 : Nat) ≤ 100000; omega), fun H5 x e5 S5 hx => ?_⟩
  have e15 := w2.1.trans (w3.1.trans (w4.1.trans (off_up e5)))
  have hl := (w3.1.trans (w4.1.trans (off_up e5))) _ _ w2.2
  have ht := (w4.1.trans (off_up e5)) _ _ w3.2
  refine ⟨(by show 2 ≤ sizeLine; decide), fun p hp => ⟨p, _, rfl, SqT.of upd_same, rfl, _, _, rfl, _, _, rfl, ⟨rfl, ?_⟩⟩⟩
  have w6 := S5.new hp (o := .tup [bad, x])
  have e16 := e15.trans w6.1
  have ok : NoSt (off st cl H5) x (srt ns) ∧ ∃ t, TrAt (off st cl H5) 4 x t := by
    have no : ∀ {k : KN}, Knd (off st cl H5) x k → k ≠ .str → NoSt (off st cl H5) x (srt ns) := fun {k} hk hn => ⟨⟨k, hk⟩, fun y e => by
      subst e
      cases hk
      exact absurd rfl hn⟩
    simp only [List.mem_cons, List.not_mem_nil, or_false] at hx
    rcases hx with rfl | rfl | rfl | rfl | rfl | rfl
    · exact ⟨no .non (by decide), _, .non 4⟩
    · exact ⟨no (.int 5) (by decide), _, .int 4 5⟩
    · refine ⟨⟨⟨_, .str _⟩, fun y e h => ?_⟩, _, .str 4 _⟩
      cases e
      exact absurd (mem _ ((srt_perm ns).mem_iff.mp h)) (by decide +kernel)
    · exact ⟨no (.lst hl) (by decide), _, .lst hl (by decide) .nil⟩
    · exact ⟨no (.bl true) (by decide), _, .bl 4 true⟩
    · exact ⟨no (.tup ht) (by decide), _, .tup ht (by decide) (.cons (.str 3 _) .nil)⟩
  exact k bad x _ ((off_up e1).trans e16 |>.trans off_sub) ((S5.mono (Ex.new hp)).le (by omega)) (bw.mono e16) ⟨tb, trb.mono e16⟩ (ok.1.mono w6.1) (let ⟨t, h⟩ := ok.2; ⟨t, h.mono w6.1⟩)
theorem law_s7 (T : Txt K mg) (L : LawH P w K mg base C NS BW BN c PT fR fF) (hr : Room 12 (lawX P w K mg base c f A outer s H0 E).A) : ∃ t, PS (lawX P w K mg base c f A outer s H0 E) (lawS 7) t ∧
    ∀ (D : Ends) (a st cl an ap wb m al ao : Addr) (bad non : V) (B i : Nat) (ns : List Str) (o9 o12 o13 o14 o15 o16 : Option V) (H : Hp), Stm H st cl B → B + 60000 < 2 ^ 40 →
      (∀ (wro : V) (H' : Hp), Ex (off st cl H) H' → Stm H' st cl (B + 1) → BadNm (off st cl H') wro (srt ns) → (∃ t, TrAt (off st cl H') 4 wro t) → D.nx [some (.ref a), some (.ref st), some (.int i), some (.ref an), some (.ref ap), some (.ref wb), some (.ref m), some (.ref al), some (.ref ao), o9, some (bad), some (non), some (wro), o13, o14, o15, o16, none] H') →
      t D [some (.ref a), some (.ref st), some (.int i), some (.ref an), some (.ref ap), some (.ref wb), some (.ref m), some (.ref al), some (.ref ao), o9, some (bad), some (non), o12, o13, o14, o15, o16, none] H := by
  have sc := sc_law
  refine ⟨_, ((ps_set (i := 12) sc.nd rfl (by first | exact Or.inl rfl | exact Or.inr rfl) (pe_has L.d_law_pick (hr.mono (by decide)) pass0 (by exact (pa_cons (pv 1) (pa_cons (pe_lst (pa_cons pe_non (pa_cons pe_int (pa_cons pe_str (pa_cons pe_str (pa_cons pe_str (pa_cons pe_str (pa_cons pe_str (pa_cons pe_str (pa_cons (pe_lst pa_nil) (pa_cons pe_bl (pa_cons (pe_tup (pa_cons pe_str pa_nil)) pa_nil)))))))))))) pa_nil)))))), fun D a st cl an ap wb m al ao bad non B i ns o9 o12 o13 o14 o15 o16 H S hB k => ?_⟩
  refine ⟨.ref st, rfl, Nat.zero_le _, fun l1 hl1 => ⟨(by show 1 ≤ sizeLine; decide), fun t1 ht1 => ⟨(by show 11 ≤ sizeLine; decide), fun p3 hp3 => ?_⟩⟩⟩
  have w2 := S.new hl1 (o := .lst [])
  have S2 := S.mono (Ex.new (o := .lst []) hl1)
  generalize upd H l1 (.lst []) = H2 at w2 S2 ht1 hp3 ⊢
  have w3 := S2.new ht1 (o := .tup [.str "a"])
  have S3 := S2.mono (Ex.new (o := .tup [.str "a"]) ht1)
  generalize upd H2 t1 (.tup [.str "a"]) = H3 at w3 S3 hp3 ⊢
  have w4 := S3.new hp3 (o := .lst [.non, .int 5, .str "", .str "A", .str "1a", .str "a-b", .str "thirteensigns", .str "a b", .ref l1, .bl true, .ref t1])
  have S4 := S3.mono (Ex.new (o := .lst [.non, .int 5, .str "", .str "A", .str "1a", .str "a-b", .str "thirteensigns", .str "a b", .ref l1, .bl true, .ref t1]) hp3)
  generalize upd H3 p3 (.lst [.non, .int 5, .str "", .str "A", .str "1a", .str "a-b", .str "thirteensigns", .str "a b", .ref l1, .bl true, .ref t1]) = H4 at w4 S4 ⊢
  refine ⟨st, cl, B, p3, _, rfl, S4, by omega, w4.2, by simp, (by show (11 : Nat) ≤ 100000; omega), fun H5 x e5 S5 hx => ?_⟩
  have e15 := w2.1.trans (w3.1.trans (w4.1.trans (off_up e5)))
  have hl := (w3.1.trans (w4.1.trans (off_up e5))) _ _ w2.2
  have ht := (w4.1.trans (off_up e5)) _ _ w3.2
  have ok : BadNm (off st cl H5) x (srt ns) ∧ ∃ t, TrAt (off st cl H5) 4 x t := by
    have st_ : ∀ y : Str, y.length ≤ 1000 → nmV (.str y) = false → BadNm (off st cl H5) (.str y) (srt ns) ∧ ∃ t, TrAt (off st cl H5) 4 (.str y) t := fun y h1 h2 => ⟨⟨⟨_, .str y⟩, fun z e => by cases e; exact h1, .inl h2⟩, _, .str 4 y⟩
    simp only [List.mem_cons, List.not_mem_nil, or_false] at hx
    rcases hx with rfl | rfl | rfl | rfl | rfl | rfl | rfl | rfl | rfl | rfl | rfl
    · exact ⟨⟨⟨_, .non⟩, fun z e => by (cases e), .inl rfl⟩, _, .non 4⟩
    · exact ⟨⟨⟨_, .int 5⟩, fun z e => by (cases e), .inl rfl⟩, _, .int 4 5⟩
    · exact st_ _ (by decide +kernel) (by decide +kernel)
    · exact st_ _ (by decide +kernel) (by decide +kernel)
    · exact st_ _ (by decide +kernel) (by decide +kernel)
    · exact st_ _ (by decide +kernel) (by decide +kernel)
    · exact st_ _ (by decide +kernel) (by decide +kernel)
    · exact st_ _ (by decide +kernel) (by decide +kernel)
    · exact ⟨⟨⟨_, .lst hl⟩, fun z e => by (cases e), .inl rfl⟩, _, .lst hl (by decide) .nil⟩
    · exact ⟨⟨⟨_, .bl true⟩, fun z e => by (cases e), .inl rfl⟩, _, .bl 4 true⟩
    · exact ⟨⟨⟨_, .tup ht⟩, fun z e => by (cases e), .inl rfl⟩, _, .tup ht (by decide) (.cons (.str 3 _) .nil)⟩
  exact k x _ (e15.trans off_sub) S5 ok.1 ok.2
end
end K73
set_option maxRecDepth 100000
set_option maxHeartbeats 4000000
namespace K73
open Enc (At enc)
open PySem L2 Evl LamX
/-! ### the heap without the tables of code objects -/
def noT (H : Hp) : Hp := fun b => match H b with
  | some (.tbl _) => none
  | o => o
section
variable {H H1 G : Hp} {b : Addr} {o : HO}
theorem noT_at (h : H b = some o) (n : ∀ ps, o ≠ .tbl ps := by intro ps z; cases z) : noT H b = some o := by
  unfold noT
  rw [h]
  cases o with
  | tbl ps => exact absurd rfl (n ps)
  | _ => rfl
theorem noT_sub : Ex (noT H) H := fun b o h => by
  unfold noT at h
  split at h
  · cases h
  · exact h
theorem noT_no : ∀ b ps, noT H b ≠ some (.tbl ps) := fun b ps h => by
  have e := noT_sub _ _ h
  unfold noT at h
  rw [e] at h
  cases h
theorem ex_extN (n : ∀ b ps, G b ≠ some (.tbl ps)) (e : Ex G H) (x : ExtN H H1) : Ex G H1 := fun b o h => x b o (e b o h) fun ps z => n b ps (z ▸ h)
theorem Knd.noT {v : V} {k : KN} (h : Knd H v k) : Knd (noT H) v k := by
  cases h with
  | non => exact .non
  | bl b => exact .bl b
  | int i => exact .int i
  | str x => exact .str x
  | lst q => exact .lst (noT_at q)
  | tup q => exact .tup (noT_at q)
  | dK q => exact .dK (noT_at q)
  | dT q => exact .dT (noT_at q)
theorem TrAt.noT {n : Nat} {v : V} {t : Tr} (h : TrAt H n v t) : TrAt (noT H) n v t := by
  induction h with
  | non n => exact .non n
  | bl n b => exact .bl n b
  | int n i => exact .int n i
  | str n x => exact .str n x
  | lst' h hl hn hp ih => exact .lst' (noT_at h) hl hn ih
  | tup' h hl hn hp ih => exact .tup' (noT_at h) hl hn ih
  | dK' h hl hn hp ih => exact .dK' (noT_at h) hl hn ih
  | dT' h hl hk hn hp ih => exact .dT' (noT_at h) hl hk hn ih
theorem Each.noT : ∀ {vs : List V} {ps : List Pr}, Each H vs ps → Each (noT H) vs ps := fun h => Each.tups (fun b xs q => noT_at q) h
theorem Deb.noT {C m : Addr} {ns : List Str} {ps : List Pr} (h : Deb C H m ns ps) : Deb C (noT H) m ns ps := by
  obtain ⟨⟨dx, l1, l2, d1, d2, a1, a2, ws, x1, x2, x3, x4, x5, x6, x7, x8⟩, r1, r2, r3, r4, r5, r6⟩ := h
  exact ⟨⟨dx, l1, l2, d1, d2, a1, a2, ws, noT_at x1, noT_at x2, noT_at x3, x4.noT, noT_at x5, noT_at x6, fun n hn => noT_at (x7 n hn), fun n hn => noT_at (x8 n hn)⟩, r1, r2, r3, r4, r5, r6⟩
theorem Wts.noT {v : V} {ps : List Pr} {wt : Pr → Int} (h : Wts H v ps wt) : Wts (noT H) v ps wt := let ⟨b, kvs, e, h1, h2⟩ := h; ⟨b, kvs, e, noT_at h1, h2⟩
theorem BadW.noT {v : V} {ps : List Pr} (h : BadW H v ps) : BadW (noT H) v ps := by
  cases h with
  | kind h hk => exact .kind h.noT hk
  | lenT e h hl => exact .lenT e (noT_at h) hl
  | lenK e h hl => exact .lenK e (noT_at h) hl
  | inT e h hl hk hb => exact .inT e (noT_at h) hl (fun p hp u hu => let ⟨k, z⟩ := hk p hp u hu; ⟨k, z.noT⟩) hb
  | inK e h hl hn => exact .inK e (noT_at h) hl hn
theorem NoSt.noT {v : V} {ns : List Str} (h : NoSt H v ns) : NoSt (noT H) v ns := ⟨let ⟨k, z⟩ := h.1; ⟨k, z.noT⟩, h.2⟩
theorem BadNm.noT {v : V} {ns : List Str} (h : BadNm H v ns) : BadNm (noT H) v ns := ⟨let ⟨k, z⟩ := h.1; ⟨k, z.noT⟩, h.2⟩
end
/-! ### what law keeps while lambdas are made -/
def NoL (o : HO) : Prop := ∀ xs, o ≠ .lst xs
theorem CodeIn.keep {q : Str} {H H' : Hp} {c : Addr} (h : CodeIn q H c) (e : ∀ b o, H b = some o → NoL o → H' b = some o) : CodeIn q H' c := let ⟨T, a⟩ := h; ⟨T, e _ _ a fun xs z => by unfold CodeX at z; cases z⟩
theorem TabG.keep {G : Hp → Addr → Prop} {H H' : Hp} {P : Addr} (t : TabG G H P) (e : ∀ b o, H b = some o → NoL o → H' b = some o) (g : ∀ c, G H c → G H' c) : TabG G H' P :=
  let ⟨ps, h1, h2, h3⟩ := t; ⟨ps, e _ _ h1 (fun _ z => by cases z), h2, fun pos cv hc => let ⟨c, a, b⟩ := h3 pos cv hc; ⟨c, a, g c b⟩⟩
theorem Tab2.keep {q q2 : Str} {P : Addr} {H H' : Hp} (t : Tab2 q q2 P H) (e : ∀ b o, H b = some o → NoL o → H' b = some o) : Tab2 q q2 P H' :=
  TabG.keep t e fun c ⟨T, a, n, u⟩ => ⟨T, e _ _ a (fun xs z => by (unfold CodeX at z; cases z)), n, u.keep e fun c h => h.keep e⟩
theorem Tab2.upd {q q2 : Str} {P : Addr} {H : Hp} {b : Addr} {xs : List V} {o : HO} (t : Tab2 q q2 P H) (hb : H b = some (.lst xs)) : Tab2 q q2 P (upd H b o) := t.keep fun c u h n => by
  rw [upd_ne fun z => by rw [z, hb] at h; exact n _ (Option.some.inj h).symm]
  exact h
theorem Tab2.step {q q2 : Str} {P : Addr} {H H' : Hp} {st cl : Addr} {B : Nat} (t : Tab2 q q2 P H) (S : Stm H st cl B) (e : Ex (off st cl H) H') : Tab2 q q2 P H' := t.keep fun b o h n => by
  obtain ⟨_, cs, n1, n2, n3, h1, h2, _⟩ := S
  refine e _ _ ?_
  rw [off_ne (fun z => by rw [z, h1] at h; exact n _ (Option.some.inj h).symm) fun z => by rw [z, h2] at h; exact n _ (Option.some.inj h).symm]
  exact h
/-- pairs of a word and a value -/
def Items (H : Hp) : List V → List (Str × V) → Prop := Paired fun w r => ∃ p, w = V.ref p ∧ H p = some (.tup [.str r.1, r.2])
theorem Items.keep {H H' : Hp} (e : ∀ b xs, H b = some (.tup xs) → H' b = some (.tup xs)) {ws : List V} {rs : List (Str × V)} (h : Items H ws rs) : Items H' ws rs := paired_imp (fun _ _ ⟨p, a, b⟩ => ⟨p, a, e _ _ b⟩) h
structure SH (G : Hp) (st cl PT fo du : Addr) (B : Nat) (rs us : List (Str × V)) (H : Hp) : Prop where
  ex : Ex G H
  nt : ∀ b ps, G b ≠ some (.tbl ps)
  S : Stm H st cl B
  T : Tab2 lawQ lawQ2 PT H
  hf : ∃ vs, H fo = some (.lst vs) ∧ Items H vs rs
  hd : ∃ vs, H du = some (.lst vs) ∧ Items H vs us
  ne : fo ≠ du
  f1 : fo ≠ st ∧ fo ≠ cl
  d1 : du ≠ st ∧ du ≠ cl
  Gf : G fo = none
  Gd : G du = none
section
variable {G : Hp} {st cl PT fo du : Addr} {B : Nat} {rs us : List (Str × V)} {H H' : Hp}
theorem Stm.extN (S : Stm H st cl B) (x : ExtN H H') : Stm H' st cl B := let ⟨h0, cs, n1, n2, n3, h1, h2, h3⟩ := S; ⟨h0, cs, n1, n2, n3, x _ _ h1 (fun _ z => by cases z), x _ _ h2 (fun _ z => by cases z), h3⟩
theorem Stm.upd {b : Addr} {o : HO} (S : Stm H st cl B) (hb : b ≠ st ∧ b ≠ cl) : Stm (upd H b o) st cl B := let ⟨h0, cs, n1, n2, n3, h1, h2, h3⟩ := S; ⟨h0, cs, n1, n2, n3, by rw [upd_ne fun z => hb.1 z.symm]; exact h1, by rw [upd_ne fun z => hb.2 z.symm]; exact h2, h3⟩
theorem SH.extN (h : SH G st cl PT fo du B rs us H) (x : ExtN H H') (T : Tab2 lawQ lawQ2 PT H') : SH G st cl PT fo du B rs us H' :=
  have kt : ∀ b xs, H b = some (.tup xs) → H' b = some (.tup xs) := fun b xs q => x _ _ q fun _ z => by cases z
  ⟨ex_extN h.nt h.ex x, h.nt, h.S.extN x, T, let ⟨vs, a, b⟩ := h.hf; ⟨vs, x _ _ a (fun _ z => by cases z), b.keep kt⟩, let ⟨vs, a, b⟩ := h.hd; ⟨vs, x _ _ a (fun _ z => by cases z), b.keep kt⟩, h.ne, h.f1, h.d1, h.Gf, h.Gd⟩
theorem SH.up (h : SH G st cl PT fo du B rs us H) (e : Ex H H') : SH G st cl PT fo du B rs us H' :=
  have kt : ∀ b xs, H b = some (.tup xs) → H' b = some (.tup xs) := fun b xs q => e _ _ q
  ⟨h.ex.trans e, h.nt, h.S.mono e, Tab2.ext h.T e, let ⟨vs, a, b⟩ := h.hf; ⟨vs, e _ _ a, b.keep kt⟩, let ⟨vs, a, b⟩ := h.hd; ⟨vs, e _ _ a, b.keep kt⟩, h.ne, h.f1, h.d1, h.Gf, h.Gd⟩
theorem items_len {ws : List V} {rs : List (Str × V)} (h : Items H ws rs) : ws.length = rs.length := Paired.length h
theorem items_upd {b : Addr} {xs : List V} {o : HO} {ws : List V} {rs : List (Str × V)} (hb : H b = some (.lst xs)) (h : Items H ws rs) : Items (upd H b o) ws rs := h.keep fun c ys q => by
  rw [upd_ne fun z => by rw [z, hb] at q; cases q]
  exact q
theorem items_app : ∀ {vs ws : List V} {rs us : List (Str × V)}, Items H vs rs → Items H ws us → Items H (vs ++ ws) (rs ++ us)
  | _, _, _, _, .nil, h => h
  | _, _, _, _, .cons a t, h => .cons a (items_app t h)
/-- the list of what was found grows -/
theorem SH.pushF {vs ws : List V} {qs : List (Str × V)} (h : SH G st cl PT fo du B rs us H) (hv : H fo = some (.lst vs)) (hw : Items H ws qs) : SH G st cl PT fo du B (rs ++ qs) us (upd H fo (.lst (vs ++ ws))) := by
  obtain ⟨ex, nt, S, T, ⟨vs', hf, hi⟩, ⟨ys, hd, hj⟩, ne, f1, d1, Gf, Gd⟩ := h
  rw [hv] at hf
  cases hf
  exact ⟨Ex.mut ex Gf, nt, S.upd f1, T.upd hv, ⟨_, upd_same, items_upd hv (items_app hi hw)⟩, ⟨ys, by rw [upd_ne (Ne.symm ne)]; exact hd, items_upd hv hj⟩, ne, f1, d1, Gf, Gd⟩
theorem SH.pushD {vs ws : List V} {qs : List (Str × V)} (h : SH G st cl PT fo du B rs us H) (hv : H du = some (.lst vs)) (hw : Items H ws qs) : SH G st cl PT fo du B rs (us ++ qs) (upd H du (.lst (vs ++ ws))) := by
  obtain ⟨ex, nt, S, T, ⟨vs', hf, hi⟩, ⟨ys, hd, hj⟩, ne, f1, d1, Gf, Gd⟩ := h
  rw [hv] at hd
  cases hd
  exact ⟨Ex.mut ex Gd, nt, S.upd d1, T.upd hv, ⟨vs', by rw [upd_ne ne]; exact hf, items_upd hv hi⟩, ⟨_, upd_same, items_upd hv (items_app hj hw)⟩, ne, f1, d1, Gf, Gd⟩
theorem SH.more {p : Addr} {o : HO} (h : SH G st cl PT fo du B rs us H) (hp : H p = none) (no : ∀ ps, o ≠ .tbl ps) : SH (L2.upd G p o) st cl PT fo du B rs us (L2.upd H p o) := by
  have h2 := h.up (Ex.new (o := o) hp)
  have nf : fo ≠ p := fun z => by
    obtain ⟨vs, q, _⟩ := h.hf
    rw [z, hp] at q
    cases q
  have nd : du ≠ p := fun z => by
    obtain ⟨vs, q, _⟩ := h.hd
    rw [z, hp] at q
    cases q
  refine ⟨fun b u q => ?_, fun b ps q => ?_, h2.S, h2.T, h2.hf, h2.hd, h.ne, h.f1, h.d1, by rw [upd_ne nf]; exact h.Gf, by rw [upd_ne nd]; exact h.Gd⟩
  · by_cases hb : b = p
    · rw [hb, upd_same] at q ⊢
      exact q
    · rw [upd_ne hb] at q
      exact h2.ex b u q
  · by_cases hb : b = p
    · rw [hb, upd_same] at q
      exact no ps (Option.some.inj q)
    · rw [upd_ne hb] at q
      exact h.nt b ps q
theorem SH.less {G' : Hp} (e : Ex G G') (h : SH G' st cl PT fo du B rs us H) : SH G st cl PT fo du B rs us H := ⟨e.trans h.ex, fun b ps q => h.nt b ps (e _ _ q), h.S, h.T, h.hf, h.hd, h.ne, h.f1, h.d1, fresh_back e h.Gf, fresh_back e h.Gd⟩
/-- another list of ours is written -/
theorem SH.mut {b : Addr} {xs : List V} {o : HO} (h : SH G st cl PT fo du B rs us H) (hb : H b = some (.lst xs)) (Gb : G b = none) (n1 : b ≠ fo) (n2 : b ≠ du) (n3 : b ≠ st ∧ b ≠ cl) : SH G st cl PT fo du B rs us (L2.upd H b o) := by
  obtain ⟨ex, nt, S, T, ⟨vs, hf, hi⟩, ⟨ys, hd, hj⟩, ne, f1, d1, Gf, Gd⟩ := h
  exact ⟨Ex.mut ex Gb, nt, S.upd n3, T.upd hb, ⟨vs, by rw [upd_ne (Ne.symm n1)]; exact hf, items_upd hb hi⟩, ⟨ys, by rw [upd_ne (Ne.symm n2)]; exact hd, items_upd hb hj⟩, ne, f1, d1, Gf, Gd⟩
/-- a pair told, and put into the list -/
theorem SH.told {nm : Str} {v : V} {p : Addr} (h : SH G st cl PT fo du B rs us H) (hl : rs.length ≤ 100) (hp : H p = none) :
    ∃ vs, upd H p (.tup [.str nm, v]) fo = some (.lst vs) ∧ vs.length < sizeLine ∧ SH G st cl PT fo du B (rs ++ [(nm, v)]) us (upd (upd H p (.tup [.str nm, v])) fo (.lst (vs ++ [.ref p]))) := by
  have h2 := h.up (Ex.new (o := .tup [.str nm, v]) hp)
  obtain ⟨vs, hv, hi⟩ := h2.hf
  have z : (100 : Nat) < sizeLine := by decide
  exact ⟨vs, hv, by rw [items_len hi]; omega, h2.pushF hv (.cons ⟨p, rfl, upd_same⟩ .nil)⟩
end
end K73
set_option maxRecDepth 100000
set_option maxHeartbeats 4000000
namespace K73
open Enc (At enc)
open PySem L2 Evl LamX
/-- what law has made before the first lambda, in the heap G -/
structure GF (G : Hp) (C an wb m : Addr) (bad non wro : V) (ns : List Str) (ps : List Pr) (wt : Pr → Int) : Prop where
  an : G an = some (.lst (ns.map V.str))
  mem : ∀ x ∈ ns, x ∈ nm10
  ln : ns.length ≤ 7
  dm : Deb C G m (srt ns) (srt ps)
  hw : Wts G (.ref wb) (srt ps) wt
  bw : BadW G bad (srt ps)
  tb : ∃ t, TrAt G 4 bad t
  nn : NoSt G non (srt ns)
  tn : ∃ t, TrAt G 4 non t
  bn : BadNm G wro (srt ns)
  tw : ∃ t, TrAt G 4 wro t
abbrev duo (bad non : V) : List (Str × V) := [("weights", bad), ("statement", non)]
section
variable {P : Program} {w : World} {K : PySem.W.Frag} {mg : Str → Option Value} {base : Heap} {C NS BW BN c PT fR fF f : Addr} {A : Around} {outer : List Env} {s : Shared} {H0 : Hp} {E : XK}
theorem law_s8 (T : Txt K mg) (L : LawH P w K mg base C NS BW BN c PT fR fF) (hr : Room 12 (lawX P w K mg base c f A outer s H0 E).A) : ∃ t, PS (lawX P w K mg base c f A outer s H0 E) (lawS 8) t ∧
    ∀ (D : Ends) (a st cl an ap wb m al ao : Addr) (bad non wro : V) (i : Nat) (o9 o13 o14 o15 o16 : Option V) (H : Hp),
      (∀ (fo du : Addr) (H' : Hp), Ex H H' → H fo = none → H du = none → fo ≠ du → H' fo = some (.lst []) → H' du = some (.lst []) → D.nx [some (.ref a), some (.ref st), some (.int i), some (.ref an), some (.ref ap), some (.ref wb), some (.ref m), some (.ref al), some (.ref ao), o9, some (bad), some (non), some (wro), some (.ref fo), some (.ref du), o15, o16, none] H') →
      t D [some (.ref a), some (.ref st), some (.int i), some (.ref an), some (.ref ap), some (.ref wb), some (.ref m), some (.ref al), some (.ref ao), o9, some (bad), some (non), some (wro), o13, o14, o15, o16, none] H := by
  have sc := sc_law
  refine ⟨_, ((ps_par (i := 13) (j := 14) (by rfl) sc.nd rfl rfl (by decide) rfl rfl (by exact (pa_cons (pe_lst pa_nil) (pa_cons (pe_lst pa_nil) pa_nil))) (by rfl))), fun D a st cl an ap wb m al ao bad non wro i o9 o13 o14 o15 o16 H k => ?_⟩
  refine ⟨Nat.zero_le _, fun p1 h1 => ⟨Nat.zero_le _, fun p2 h2 => ?_⟩⟩
  have n12 : p2 ≠ p1 := fun z => by rw [z, upd_same] at h2; cases h2
  have h2' : H p2 = none := by rwa [upd_ne n12] at h2
  exact ⟨_, _, rfl, k p1 p2 _ ((Ex.new h1).trans (Ex.new h2)) h1 h2' (Ne.symm n12) (by rw [upd_ne (Ne.symm n12), upd_same]) upd_same⟩
theorem law_s9 (T : Txt K mg) (L : LawH P w K mg base C NS BW BN c PT fR fF) (hr : Room 12 (lawX P w K mg base c f A outer s H0 E).A) : ∃ t, PS (lawX P w K mg base c f A outer s H0 E) (lawS 9) t ∧
    ∀ (D : Ends) (a st cl an ap wb m al ao : Addr) (bad non wro : V) (i : Nat) (B : Nat) (G : Hp) (fo du : Addr) (ns : List Str) (ps : List Pr) (wt : Pr → Int) (o9 o15 o16 : Option V) (H : Hp), SH G st cl PT fo du B [] [] H → GF G C an wb m bad non wro ns ps wt →
      (∀ (o15 : Option V) (H' : Hp), SH G st cl PT fo du B (duo bad non ++ duo bad non) (duo bad non ++ duo bad non) H' → D.nx [some (.ref a), some (.ref st), some (.int i), some (.ref an), some (.ref ap), some (.ref wb), some (.ref m), some (.ref al), some (.ref ao), o9, some (bad), some (non), some (wro), some (.ref fo), some (.ref du), o15, o16, none] H') →
      t D [some (.ref a), some (.ref st), some (.int i), some (.ref an), some (.ref ap), some (.ref wb), some (.ref m), some (.ref al), some (.ref ao), o9, some (bad), some (non), some (wro), some (.ref fo), some (.ref du), o15, o16, none] H := by
  have sc := sc_law
  refine ⟨_, ((ps_for PassesOwn.never rfl (pi_tupK K rfl (pe_tup (pa_cons (pe_glob (v := .ref fR) rfl L.mR rfl) (pa_cons (pe_glob (v := .ref fF) rfl L.mF rfl) pa_nil)))) (pg_name (i := 15) sc.nd rfl (by first | exact Or.inl rfl | exact Or.inr rfl))
      (pss_cons (ps_expr (pe_bmK K rfl PySem.F.plainAttrs_list PySem.F.slot_list_append PySem.F.type_list_append mt_append (pv 13) (pa_cons (pe_met (k := 9) (y := "_law_made") (mk_outer (q2 := lawQ2) L.TB rfl) L.d_met L.eW L.eN L.eB L.EK (hr.mono (by decide)) (lamS_by (show lamSB (defScope s_law) _ = true by decide +kernel)) (by decide +kernel) rfl (fun _ _ _ _ _ => rfl) (fun A2 outer2 s2 H2 E2 f2 c2 hr2 => (pe_callS (i := 15) (E := E2) (S := fun f => f = fR ∨ f = fF) L.hAsk (hr2.mono (by decide)) (passes_call (takes_of rfl rfl rfl rfl) (fun _ _ _ _ h => h)) (pa_cons (pv 6) (pa_cons (pv 10) (pa_cons (pv 11) pa_nil)))))) pa_nil)))
      (pss_cons (ps_expr (pe_bmK K rfl PySem.F.plainAttrs_list PySem.F.slot_list_append PySem.F.type_list_append mt_append (pv 13) (pa_cons (pe_met (k := 9) (y := "_law_made") (mk_outer (q2 := lawQ2) L.TB rfl) L.d_met L.eW L.eN L.eB L.EK (hr.mono (by decide)) (lamS_by (show lamSB (defScope s_law) _ = true by decide +kernel)) (by decide +kernel) rfl (fun _ _ _ _ _ => rfl) (fun A2 outer2 s2 H2 E2 f2 c2 hr2 => (pe_callS (i := 15) (E := E2) (S := fun f => f = fR ∨ f = fF) L.hAsk (hr2.mono (by decide)) (passes_call (takes_of rfl rfl rfl rfl) (fun _ _ _ _ h => h)) (pa_cons (pv 6) (pa_cons (pv 5) (pa_cons (pv 11) pa_nil)))))) pa_nil)))
      (pss_one (ps_expr (pe_bmK K rfl PySem.F.plainAttrs_list PySem.F.slot_list_extend PySem.F.type_list_extend mt_extend (pv 14) (pa_cons (pe_lst (pa_cons (pe_tup (pa_cons pe_str (pa_cons (pv 10) pa_nil))) (pa_cons (pe_tup (pa_cons pe_str (pa_cons (pv 11) pa_nil))) pa_nil))) pa_nil)))))))), fun D a st cl an ap wb m al ao bad non wro i B G fo du ns ps wt o9 o15 o16 H h g k => ?_⟩
  refine ⟨(by show 2 ≤ sizeLine; decide), fun tp htp => ?_⟩
  have h2 := h.up (Ex.new (o := .tup [.ref fR, .ref fF]) htp)
  have ht : upd H tp (.tup [.ref fR, .ref fF]) tp = some (.tup [.ref fR, .ref fF]) := upd_same
  generalize upd H tp (.tup [.ref fR, .ref fF]) = H2 at h2 ht ⊢
  refine ⟨tp, rfl, ⟨_, SqT.of ht⟩, forG 2 (fun j σ H' => (∃ o15, σ = [some (.ref a), some (.ref st), some (.int i), some (.ref an), some (.ref ap), some (.ref wb), some (.ref m), some (.ref al), some (.ref ao), o9, some (bad), some (non), some (wro), some (.ref fo), some (.ref du), o15, o16, none]) ∧ H' tp = some (.tup [.ref fR, .ref fF]) ∧ SH G st cl PT fo du B (List.replicate j (duo bad non)).flatten (List.replicate j (duo bad non)).flatten H') ⟨⟨_, rfl⟩, ht, h2⟩ (fun j σ H' hj ⟨_, e, _⟩ => ?_) (fun σ H' ⟨_, e, _⟩ => ⟨_, SqT.of e, (by show 2 ≤ 2; omega)⟩) ?_ ?_⟩
  · rcases (show j = 0 ∨ j = 1 by omega) with rfl | rfl
    · exact ⟨_, _, SqT.of e, rfl⟩
    · exact ⟨_, _, SqT.of e, rfl⟩
  · rintro j σ H' x H3 hj ⟨⟨u15, rfl⟩, ht3, h3⟩ ⟨rfl, hx⟩
    have hfx : ∃ fx, x = V.ref fx ∧ (fx = fR ∨ fx = fF) := by
      have q := hx _ (SqT.of ht3)
      rcases (show j = 0 ∨ j = 1 by omega) with rfl | rfl
      · exact ⟨fR, (Option.some.inj q).symm, .inl rfl⟩
      · exact ⟨fF, (Option.some.inj q).symm, .inr rfl⟩
    obtain ⟨fx, rfl, hS⟩ := hfx
    have hlen : (List.replicate j (duo bad non)).flatten.length ≤ 2 := by
      rcases (show j = 0 ∨ j = 1 by omega) with rfl | rfl
      · exact Nat.zero_le _
      · exact Nat.le_refl _
    have tk3 : ∀ {H4 : Hp}, (∀ b xs, H3 b = some (.tup xs) → H4 b = some (.tup xs)) → H4 tp = some (.tup [.ref fR, .ref fF]) := fun e => e _ _ ht3
    obtain ⟨vs3, hf3, -⟩ := h3.hf
    refine ⟨.ref fo, rfl, Or.inl ⟨rfl, _, SqL.of hf3⟩, h3.T, fun c1 H4 eN4 ⟨T4, _⟩ => ?_⟩
    have h4 := h3.extN eN4 T4
    have ht4 := eN4 _ _ ht3 (fun _ z => by cases z)
    refine ⟨fx, rfl, hS, .ref m, rfl, bad, rfl, non, rfl, m, srt ns, srt ps, bad, non, rfl, g.dm.mono h4.ex, Or.inl ⟨g.bw.mono h4.ex, fun dd hdd => Or.inl ⟨rfl, dd, _, bad, rfl, upd_same, rfl, (by show 2 ≤ sizeLine; decide), fun p hp => ?_⟩⟩⟩
    obtain ⟨vs5, hv5, lt5, h5⟩ := (h4.up (Ex.new hdd)).told (nm := "weights") (v := bad) (by omega) hp
    refine ⟨fo, vs5, .ref p, rfl, rfl, hv5, lt5, ?_⟩
    have ht5 : (upd (upd (upd H4 dd (.xd [("thing", bad)])) p (.tup [.str "weights", bad])) fo (.lst (vs5 ++ [.ref p]))) tp = some (.tup [.ref fR, .ref fF]) := by
      rw [upd_ne fun z => by rw [z, (show H4 fo = _ from (h4.hf.choose_spec).1)] at ht4; cases ht4]
      exact (Ex.new hp) _ _ ((Ex.new hdd) _ _ ht4)
    generalize (upd (upd (upd H4 dd (.xd [("thing", bad)])) p (.tup [.str "weights", bad])) fo (.lst (vs5 ++ [.ref p]))) = H5 at h5 ht5 ⊢
    obtain ⟨vs6, hf5, -⟩ := h5.hf
    refine ⟨.ref fo, rfl, Or.inl ⟨rfl, _, SqL.of hf5⟩, h5.T, fun c2 H6 eN6 ⟨T6, _⟩ => ?_⟩
    have h6 := h5.extN eN6 T6
    have ht6 := eN6 _ _ ht5 (fun _ z => by cases z)
    refine ⟨fx, rfl, hS, .ref m, rfl, .ref wb, rfl, non, rfl, m, srt ns, srt ps, .ref wb, non, rfl, g.dm.mono h6.ex, Or.inr ⟨wt, g.hw.mono h6.ex, g.nn.mono h6.ex, fun dd2 hdd2 => Or.inr (Or.inl ⟨rfl, dd2, _, non, rfl, upd_same, rfl, (by show 2 ≤ sizeLine; decide), fun p2 hp2 => ?_⟩)⟩⟩
    obtain ⟨vs7, hv7, lt7, h7⟩ := (h6.up (Ex.new hdd2)).told (nm := "statement") (v := non) (by rw [List.length_append]; show _ + 1 ≤ 100; omega) hp2
    refine ⟨fo, vs7, .ref p2, rfl, rfl, hv7, lt7, ?_⟩
    have ht7 : (upd (upd (upd H6 dd2 (.xd [("thing", non)])) p2 (.tup [.str "statement", non])) fo (.lst (vs7 ++ [.ref p2]))) tp = some (.tup [.ref fR, .ref fF]) := by
      rw [upd_ne fun z => by rw [z, (show H6 fo = _ from (h6.hf.choose_spec).1)] at ht6; cases ht6]
      exact (Ex.new hp2) _ _ ((Ex.new hdd2) _ _ ht6)
    generalize (upd (upd (upd H6 dd2 (.xd [("thing", non)])) p2 (.tup [.str "statement", non])) fo (.lst (vs7 ++ [.ref p2]))) = H7 at h7 ht7 ⊢
    obtain ⟨ds, hd7, -⟩ := h7.hd
    refine ⟨.ref du, rfl, Or.inl ⟨rfl, _, SqL.of hd7⟩, bad, rfl, (by show 2 ≤ sizeLine; decide), fun q1 hq1 => ⟨non, rfl, (by show 2 ≤ sizeLine; decide), fun q2 hq2 => ⟨(by show 2 ≤ sizeLine; decide), fun q3 hq3 => ?_⟩⟩⟩
    have h8 := ((h7.up (Ex.new hq1)).up (Ex.new hq2)).up (Ex.new (o := .lst [.ref q1, .ref q2]) hq3)
    have x1 := (Ex.new (o := .lst [.ref q1, .ref q2]) hq3) _ _ ((Ex.new (o := .tup [.str "statement", non]) hq2) _ _ (upd_same (H := H7) (a := q1) (o := .tup [.str "weights", bad])))
    have x2 := (Ex.new (o := .lst [.ref q1, .ref q2]) hq3) _ _ (upd_same (H := upd H7 q1 (.tup [.str "weights", bad])) (a := q2) (o := .tup [.str "statement", non]))
    have x3 := upd_same (H := upd (upd H7 q1 (.tup [.str "weights", bad])) q2 (.tup [.str "statement", non])) (a := q3) (o := .lst [.ref q1, .ref q2])
    have x4 := (Ex.new (o := .lst [.ref q1, .ref q2]) hq3) _ _ ((Ex.new (o := .tup [.str "statement", non]) hq2) _ _ ((Ex.new (o := .tup [.str "weights", bad]) hq1) _ _ ht7))
    generalize upd (upd (upd H7 q1 (.tup [.str "weights", bad])) q2 (.tup [.str "statement", non])) q3 (.lst [.ref q1, .ref q2]) = H8 at h8 x1 x2 x3 x4 ⊢
    obtain ⟨ds8, hd8, hi8⟩ := h8.hd
    have z : (100 : Nat) < sizeLine := by decide
    have l8 := items_len hi8
    refine ⟨du, q3, ds8, _, rfl, rfl, hd8, x3, (by show ds8.length + 2 ≤ sizeLine; omega), ⟨_, rfl⟩, ?_, ?_⟩
    · rw [upd_ne fun z => by rw [z, hd8] at x4; cases x4]
      exact x4
    · have eR : (List.replicate (j + 1) (duo bad non)).flatten = (List.replicate j (duo bad non)).flatten ++ duo bad non := by
        rw [List.replicate_succ', List.flatten_append]
        simp
      rw [eR]
      have h9 := h8.pushD hd8 (.cons ⟨q1, rfl, x1⟩ (.cons ⟨q2, rfl, x2⟩ .nil) : Items H8 [.ref q1, .ref q2] (duo bad non))
      rw [List.append_assoc] at h9
      exact h9
  · rintro σ H' ⟨⟨u15, rfl⟩, ht3, h3⟩
    exact k u15 H' h3
end
end K73
set_option maxRecDepth 100000
set_option maxHeartbeats 4000000
namespace K73
open Enc (At enc)
open PySem L2 Evl LamX
section
variable {P : Program} {w : World} {K : PySem.W.Frag} {mg : Str → Option Value} {base : Heap} {C NS BW BN c PT fR fF f : Addr} {A : Around} {outer : List Env} {s : Shared} {H0 : Hp} {E : XK}
theorem law_s10 (T : Txt K mg) (L : LawH P w K mg base C NS BW BN c PT fR fF) (hr : Room 12 (lawX P w K mg base c f A outer s H0 E).A) : ∃ t, PS (lawX P w K mg base c f A outer s H0 E) (lawS 10) t ∧
    ∀ (D : Ends) (a st cl an ap wb m al ao : Addr) (bad non wro : V) (i : Nat) (B : Nat) (G : Hp) (fo du : Addr) (ns : List Str) (ps : List Pr) (wt : Pr → Int) (rs us : List (Str × V)) (o9 o15 o16 : Option V) (H : Hp), SH G st cl PT fo du B rs us H → GF G C an wb m bad non wro ns ps wt → rs.length ≤ 20 → us.length ≤ 20 →
      (∀ (H' : Hp), SH G st cl PT fo du B (rs ++ ([("statement", non)] : List (Str × V))) us H' → D.nx [some (.ref a), some (.ref st), some (.int i), some (.ref an), some (.ref ap), some (.ref wb), some (.ref m), some (.ref al), some (.ref ao), o9, some (bad), some (non), some (wro), some (.ref fo), some (.ref du), o15, o16, none] H') →
      t D [some (.ref a), some (.ref st), some (.int i), some (.ref an), some (.ref ap), some (.ref wb), some (.ref m), some (.ref al), some (.ref ao), o9, some (bad), some (non), some (wro), some (.ref fo), some (.ref du), o15, o16, none] H := by
  have sc := sc_law
  refine ⟨_, ((ps_expr (pe_bmK K rfl PySem.F.plainAttrs_list PySem.F.slot_list_append PySem.F.type_list_append mt_append (pv 13) (pa_cons (pe_met (k := 9) (y := "_law_made") (mk_outer (q2 := lawQ2) L.TB rfl) L.d_met L.eW L.eN L.eB L.EK (hr.mono (by decide)) (lamS_by (show lamSB (defScope s_law) _ = true by decide +kernel)) (by decide +kernel) rfl (fun _ _ _ _ _ => rfl) (fun A2 outer2 s2 H2 E2 f2 c2 hr2 => (pe_has L.d_with_answer (hr2.mono (by decide)) (passes_call (takes_of rfl rfl rfl rfl) (fun _ _ _ _ h => h)) (by exact (pa_cons (pv 6) (pa_cons (pv 11) (pa_cons (pv 12) pa_nil))))))) pa_nil)))), fun D a st cl an ap wb m al ao bad non wro i B G fo du ns ps wt rs us o9 o15 o16 H h g hr1 hu1 k => ?_⟩
  obtain ⟨vs, hf, -⟩ := h.hf
  refine ⟨.ref fo, rfl, Or.inl ⟨rfl, _, SqL.of hf⟩, h.T, fun c1 H1 eN ⟨T1, _⟩ => ?_⟩
  have h1 := h.extN eN T1
  refine ⟨.ref m, rfl, non, rfl, wro, rfl, m, srt ns, srt ps, non, wro, rfl, g.dm.mono h1.ex, Or.inr (Or.inl ⟨g.nn.mono h1.ex, fun dd hdd => Or.inr (Or.inl ⟨rfl, dd, _, non, rfl, upd_same, rfl, (by show 2 ≤ sizeLine; decide), fun p hp => ?_⟩)⟩)⟩
  obtain ⟨vs2, hv2, lt2, h2⟩ := (h1.up (Ex.new hdd)).told (nm := "statement") (v := non) (by omega) hp
  exact ⟨fo, vs2, .ref p, rfl, rfl, hv2, lt2, k _ h2⟩
theorem law_s11 (T : Txt K mg) (L : LawH P w K mg base C NS BW BN c PT fR fF) (hr : Room 12 (lawX P w K mg base c f A outer s H0 E).A) : ∃ t, PS (lawX P w K mg base c f A outer s H0 E) (lawS 11) t ∧
    ∀ (D : Ends) (a st cl an ap wb m al ao : Addr) (bad non wro : V) (i : Nat) (B : Nat) (G : Hp) (fo du : Addr) (ns : List Str) (ps : List Pr) (wt : Pr → Int) (rs us : List (Str × V)) (o9 o15 o16 : Option V) (H : Hp), SH G st cl PT fo du B rs us H → GF G C an wb m bad non wro ns ps wt → rs.length ≤ 20 → us.length ≤ 20 →
      (∀ (H' : Hp), SH G st cl PT fo du B rs (us ++ ([("statement", non)] : List (Str × V))) H' → D.nx [some (.ref a), some (.ref st), some (.int i), some (.ref an), some (.ref ap), some (.ref wb), some (.ref m), some (.ref al), some (.ref ao), o9, some (bad), some (non), some (wro), some (.ref fo), some (.ref du), o15, o16, none] H') →
      t D [some (.ref a), some (.ref st), some (.int i), some (.ref an), some (.ref ap), some (.ref wb), some (.ref m), some (.ref al), some (.ref ao), o9, some (bad), some (non), some (wro), some (.ref fo), some (.ref du), o15, o16, none] H := by
  have sc := sc_law
  refine ⟨_, ((ps_expr (pe_bmK K rfl PySem.F.plainAttrs_list PySem.F.slot_list_append PySem.F.type_list_append mt_append (pv 14) (pa_cons (pe_tup (pa_cons pe_str (pa_cons (pv 11) pa_nil))) pa_nil)))), fun D a st cl an ap wb m al ao bad non wro i B G fo du ns ps wt rs us o9 o15 o16 H h g hr1 hu1 k => ?_⟩
  obtain ⟨ds, hd, -⟩ := h.hd
  refine ⟨.ref du, rfl, Or.inl ⟨rfl, _, SqL.of hd⟩, non, rfl, (by show 2 ≤ sizeLine; decide), fun q1 hq1 => ?_⟩
  have h2 := h.up (Ex.new (o := .tup [.str "statement", non]) hq1)
  have x1 := upd_same (H := H) (a := q1) (o := .tup [.str "statement", non])
  generalize upd H q1 (.tup [.str "statement", non]) = H2 at h2 x1 ⊢
  obtain ⟨ds2, hd2, hi2⟩ := h2.hd
  have z : (100 : Nat) < sizeLine := by decide
  have l2 := items_len hi2
  exact ⟨du, ds2, .ref q1, rfl, rfl, hd2, by omega, k _ (h2.pushD hd2 (.cons ⟨q1, rfl, x1⟩ .nil : Items H2 [.ref q1] [("statement", non)]))⟩
theorem law_s12 (T : Txt K mg) (L : LawH P w K mg base C NS BW BN c PT fR fF) (hr : Room 12 (lawX P w K mg base c f A outer s H0 E).A) : ∃ t, PS (lawX P w K mg base c f A outer s H0 E) (lawS 12) t ∧
    ∀ (D : Ends) (a st cl an ap wb m al ao : Addr) (bad non wro : V) (i : Nat) (B : Nat) (G : Hp) (fo du : Addr) (ns : List Str) (ps : List Pr) (wt : Pr → Int) (rs us : List (Str × V)) (o9 o15 o16 : Option V) (H : Hp), SH G st cl PT fo du B rs us H → GF G C an wb m bad non wro ns ps wt → rs.length ≤ 20 → us.length ≤ 20 →
      (∀ (o9 : Option V) (xs : List (Str × V)) (H' : Hp), xs.length ≤ 2 → (∀ r ∈ xs, ∃ t, TrAt G 4 r.2 t) → SH G st cl PT fo du B (rs ++ xs) (us ++ xs) H' → D.nx [some (.ref a), some (.ref st), some (.int i), some (.ref an), some (.ref ap), some (.ref wb), some (.ref m), some (.ref al), some (.ref ao), o9, some (bad), some (non), some (wro), some (.ref fo), some (.ref du), o15, o16, none] H') →
      t D [some (.ref a), some (.ref st), some (.int i), some (.ref an), some (.ref ap), some (.ref wb), some (.ref m), some (.ref al), some (.ref ao), o9, some (bad), some (non), some (wro), some (.ref fo), some (.ref du), o15, o16, none] H := by
  have sc := sc_law
  refine ⟨_, ((ps_for PassesOwn.never rfl (pi_listK K rfl (pe_slice (sl_listK K rfl) (pv 3) po_none (po_some pe_int))) (pg_name (i := 9) sc.nd rfl (by first | exact Or.inl rfl | exact Or.inr rfl))
      (pss_cons (ps_expr (pe_bmK K rfl PySem.F.plainAttrs_list PySem.F.slot_list_append PySem.F.type_list_append mt_append (pv 13) (pa_cons (pe_met (k := 9) (y := "_law_made") (mk_outer (q2 := lawQ2) L.TB rfl) L.d_met L.eW L.eN L.eB L.EK (hr.mono (by decide)) (lamS_by (show lamSB (defScope s_law) _ = true by decide +kernel)) (by decide +kernel) rfl (fun _ _ _ _ _ => rfl) (fun A2 outer2 s2 H2 E2 f2 c2 hr2 => (pe_has L.d_with_answer (hr2.mono (by decide)) (passes_call (takes_of rfl rfl rfl rfl) (fun _ _ _ _ h => h)) (by exact (pa_cons (pv 6) (pa_cons (pv 9) (pa_cons (pv 12) pa_nil))))))) pa_nil)))
      (pss_cons (ps_expr (pe_bmK K rfl PySem.F.plainAttrs_list PySem.F.slot_list_append PySem.F.type_list_append mt_append (pv 13) (pa_cons (pe_met (k := 9) (y := "_law_made") (mk_outer (q2 := lawQ2) L.TB rfl) L.d_met L.eW L.eN L.eB L.EK (hr.mono (by decide)) (lamS_by (show lamSB (defScope s_law) _ = true by decide +kernel)) (by decide +kernel) rfl (fun _ _ _ _ _ => rfl) (fun A2 outer2 s2 H2 E2 f2 c2 hr2 => (pe_has L.d_with_answer (hr2.mono (by decide)) (passes_call (takes_of rfl rfl rfl rfl) (fun _ _ _ _ h => h)) (by exact (pa_cons (pv 6) (pa_cons (pv 9) (pa_cons (pe_ix (ix_listK K rfl) (pv 3) (pe_un un_neg pe_int) (fun _ _ => rfl)) pa_nil))))))) pa_nil)))
      (pss_one (ps_expr (pe_bmK K rfl PySem.F.plainAttrs_list PySem.F.slot_list_extend PySem.F.type_list_extend mt_extend (pv 14) (pa_cons (pe_lst (pa_cons (pe_tup (pa_cons pe_str (pa_cons (pv 12) pa_nil))) (pa_cons (pe_tup (pa_cons pe_str (pa_cons (pe_ix (ix_listK K rfl) (pv 3) (pe_un un_neg pe_int) (fun _ _ => rfl)) pa_nil))) pa_nil))) pa_nil)))))))), fun D a st cl an ap wb m al ao bad non wro i B G fo du ns ps wt rs us o9 o15 o16 H h g hr1 hu1 k => ?_⟩
  refine ⟨.ref an, rfl, 1, rfl, an, _, rfl, SqL.of (h.ex _ _ g.an), fun p3 hp3 => ?_⟩
  rw [show cutV (ns.map V.str) none (some 1) = (ns.map V.str).take 1 from cut_upto _ 1]
  have G3 : G p3 = none := fresh_back h.ex hp3
  have eG : Ex G (upd G p3 (.lst ((ns.map V.str).take 1))) := Ex.new G3
  have h2 := h.more (o := .lst ((ns.map V.str).take 1)) hp3 (fun _ z => by cases z)
  have hL : upd G p3 (.lst ((ns.map V.str).take 1)) p3 = some (.lst ((ns.map V.str).take 1)) := upd_same
  have anG : upd G p3 (.lst ((ns.map V.str).take 1)) an = some (.lst (ns.map V.str)) := eG _ _ g.an
  generalize upd G p3 (.lst ((ns.map V.str).take 1)) = G' at h2 hL eG anG
  generalize upd H p3 (.lst ((ns.map V.str).take 1)) = H2 at h2 ⊢
  cases ns with
  | nil =>
    refine ⟨p3, rfl, ⟨_, SqL.of (h2.ex _ _ hL)⟩, forG 0 (fun _ σ H' => (∃ o9, σ = [some (.ref a), some (.ref st), some (.int i), some (.ref an), some (.ref ap), some (.ref wb), some (.ref m), some (.ref al), some (.ref ao), o9, some (bad), some (non), some (wro), some (.ref fo), some (.ref du), o15, o16, none]) ∧ SH G' st cl PT fo du B rs us H') ⟨⟨_, rfl⟩, h2⟩ (fun j σ H' hj => absurd hj (Nat.not_lt_zero _)) (fun σ H' ⟨_, e⟩ => ⟨_, SqL.of (e.ex _ _ hL), Nat.le_refl _⟩) (fun j σ H' x H3 hj => absurd hj (Nat.not_lt_zero _)) ?_⟩
    rintro σ H' ⟨⟨u9, rfl⟩, h3⟩
    exact k u9 [] H' (Nat.zero_le _) (fun r hr => absurd hr List.not_mem_nil) (by rw [List.append_nil, List.append_nil]; exact h3.less eG)
  | cons n0 ns =>
    obtain ⟨last, hlast, hmem⟩ : ∃ y, ((n0 :: ns).map V.str)[((n0 :: ns).map V.str).length - 1]? = some (.str y) ∧ y ∈ n0 :: ns := by
      have hl : ns.length < (n0 :: ns).length := Nat.lt_succ_self _
      refine ⟨(n0 :: ns)[ns.length], ?_, List.getElem_mem hl⟩
      rw [List.length_map, List.getElem?_map, List.length_cons, Nat.add_sub_cancel, List.getElem?_eq_getElem hl]
      rfl
    have inS : ∀ {y}, y ∈ n0 :: ns → y ∈ srt (n0 :: ns) := fun h => (srt_perm _).mem_iff.mpr h
    have bl : ∀ {H' : Hp}, BadNm H' (.str last) (srt (n0 :: ns)) := fun {H'} => ⟨⟨_, .str last⟩, fun z e => by
      cases e
      exact Nat.le_trans (nm_len (nm10_nm _ (g.mem _ hmem))) (by decide), .inr ⟨last, rfl, inS hmem⟩⟩
    refine ⟨p3, rfl, ⟨_, SqL.of (h2.ex _ _ hL)⟩, forG 1 (fun j σ H' => (∃ o9, σ = [some (.ref a), some (.ref st), some (.int i), some (.ref an), some (.ref ap), some (.ref wb), some (.ref m), some (.ref al), some (.ref ao), o9, some (bad), some (non), some (wro), some (.ref fo), some (.ref du), o15, o16, none]) ∧ SH G' st cl PT fo du B (rs ++ (List.replicate j ([("name", wro), ("name", .str last)] : List (Str × V))).flatten) (us ++ (List.replicate j ([("name", wro), ("name", .str last)] : List (Str × V))).flatten) H') ⟨⟨_, rfl⟩, by
      rw [List.replicate_zero, List.flatten_nil, List.append_nil, List.append_nil]; exact h2⟩ (fun j σ H' hj ⟨_, e⟩ => ⟨_, .str n0, SqL.of (e.ex _ _ hL), by rw [show j = 0 by omega]; rfl⟩) (fun σ H' ⟨_, e⟩ => ⟨_, SqL.of (e.ex _ _ hL), (by show 1 ≤ 1; omega)⟩) ?_ ?_⟩
    · rintro j σ H' x H3 hj ⟨⟨u9, rfl⟩, h3⟩ ⟨rfl, hx⟩
      obtain rfl : j = 0 := by omega
      obtain rfl : x = .str n0 := (Option.some.inj (hx _ (SqL.of (h3.ex _ _ hL)))).symm
      rw [List.replicate_zero, List.flatten_nil, List.append_nil, List.append_nil] at h3
      obtain ⟨vs3, hf3, -⟩ := h3.hf
      refine ⟨.ref fo, rfl, Or.inl ⟨rfl, _, SqL.of hf3⟩, h3.T, fun c1 H4 eN4 ⟨T4, _⟩ => ?_⟩
      have h4 := h3.extN eN4 T4
      refine ⟨.ref m, rfl, .str n0, rfl, wro, rfl, m, srt (n0 :: ns), srt ps, .str n0, wro, rfl, (g.dm.mono eG).mono h4.ex, Or.inr (Or.inr ⟨n0, rfl, inS List.mem_cons_self, (g.bn.mono eG).mono h4.ex, fun dd H5 e5 hdd => Or.inr (Or.inr ⟨rfl, dd, _, wro, rfl, upd_same, rfl, (by show 2 ≤ sizeLine; decide), fun p hp => ?_⟩)⟩)⟩
      obtain ⟨vs5, hv5, lt5, h5⟩ := ((h4.up e5).up (Ex.new hdd)).told (nm := "name") (v := wro) (by omega) hp
      refine ⟨fo, vs5, .ref p, rfl, rfl, hv5, lt5, ?_⟩
      generalize (upd (upd (upd H5 dd (.xd [("thing", wro)])) p (.tup [.str "name", wro])) fo (.lst (vs5 ++ [.ref p]))) = H6 at h5 ⊢
      obtain ⟨vs6, hf6, -⟩ := h5.hf
      refine ⟨.ref fo, rfl, Or.inl ⟨rfl, _, SqL.of hf6⟩, h5.T, fun c2 H7 eN7 ⟨T7, _⟩ => ?_⟩
      have h7 := h5.extN eN7 T7
      refine ⟨.ref m, rfl, .str n0, rfl, .ref an, rfl, 1, rfl, an, _, -1, .str last, rfl, rfl, SqL.of (h7.ex _ _ anG), atI_last hlast, m, srt (n0 :: ns), srt ps, .str n0, .str last, rfl, (g.dm.mono eG).mono h7.ex, Or.inr (Or.inr ⟨n0, rfl, inS List.mem_cons_self, bl, fun dd2 H8 e8 hdd2 => Or.inr (Or.inr ⟨rfl, dd2, _, .str last, rfl, upd_same, rfl, (by show 2 ≤ sizeLine; decide), fun p2 hp2 => ?_⟩)⟩)⟩
      obtain ⟨vs9, hv9, lt9, h9⟩ := ((h7.up e8).up (Ex.new hdd2)).told (nm := "name") (v := .str last) (by rw [List.length_append]; show _ + 1 ≤ 100; omega) hp2
      refine ⟨fo, vs9, .ref p2, rfl, rfl, hv9, lt9, ?_⟩
      generalize (upd (upd (upd H8 dd2 (.xd [("thing", .str last)])) p2 (.tup [.str "name", .str last])) fo (.lst (vs9 ++ [.ref p2]))) = H9 at h9 ⊢
      obtain ⟨ds, hd9, -⟩ := h9.hd
      refine ⟨.ref du, rfl, Or.inl ⟨rfl, _, SqL.of hd9⟩, wro, rfl, (by show 2 ≤ sizeLine; decide), fun q1 hq1 => ⟨.ref an, rfl, 1, rfl, an, _, -1, .str last, rfl, rfl, SqL.of (Ex.new hq1 _ _ (h9.ex _ _ anG)), atI_last hlast, (by show 2 ≤ sizeLine; decide), fun q2 hq2 => ⟨(by show 2 ≤ sizeLine; decide), fun q3 hq3 => ?_⟩⟩⟩
      have hA := ((h9.up (Ex.new hq1)).up (Ex.new hq2)).up (Ex.new (o := .lst [.ref q1, .ref q2]) hq3)
      have x1 := (Ex.new (o := .lst [.ref q1, .ref q2]) hq3) _ _ ((Ex.new (o := .tup [.str "name", .str last]) hq2) _ _ (upd_same (H := H9) (a := q1) (o := .tup [.str "name", wro])))
      have x2 := (Ex.new (o := .lst [.ref q1, .ref q2]) hq3) _ _ (upd_same (H := upd H9 q1 (.tup [.str "name", wro])) (a := q2) (o := .tup [.str "name", .str last]))
      have x3 := upd_same (H := upd (upd H9 q1 (.tup [.str "name", wro])) q2 (.tup [.str "name", .str last])) (a := q3) (o := .lst [.ref q1, .ref q2])
      generalize upd (upd (upd H9 q1 (.tup [.str "name", wro])) q2 (.tup [.str "name", .str last])) q3 (.lst [.ref q1, .ref q2]) = HA at hA x1 x2 x3 ⊢
      obtain ⟨dsA, hdA, hiA⟩ := hA.hd
      have z : (100 : Nat) < sizeLine := by decide
      have lA := items_len hiA
      refine ⟨du, q3, dsA, _, rfl, rfl, hdA, x3, (by show dsA.length + 2 ≤ sizeLine; omega), ⟨_, rfl⟩, ?_⟩
      have hB := hA.pushD hdA (.cons ⟨q1, rfl, x1⟩ (.cons ⟨q2, rfl, x2⟩ .nil) : Items HA [.ref q1, .ref q2] ([("name", wro), ("name", .str last)] : List (Str × V)))
      rw [List.append_assoc] at hB
      exact hB
    · rintro σ H' ⟨⟨u9, rfl⟩, h3⟩
      refine k u9 [("name", wro), ("name", .str last)] H' (Nat.le_refl 2) (fun r hr => ?_) (h3.less eG)
      rcases List.mem_cons.mp hr with e | hr
      · rw [e]; exact g.tw
      · rw [List.mem_singleton.mp hr]; exact ⟨_, .str 4 last⟩
end
end K73
set_option maxRecDepth 100000
set_option maxHeartbeats 4000000
namespace K73
open Enc (At enc)
open PySem L2 Evl LamX
section
variable {P : Program} {w : World} {K : PySem.W.Frag} {mg : Str → Option Value} {base : Heap} {C NS BW BN c PT fR fF f : Addr} {A : Around} {outer : List Env} {s : Shared} {H0 : Hp} {E : XK}
theorem law_s13 (T : Txt K mg) (L : LawH P w K mg base C NS BW BN c PT fR fF) (hr : Room 12 (lawX P w K mg base c f A outer s H0 E).A) : ∃ t, PS (lawX P w K mg base c f A outer s H0 E) (lawS 13) t ∧
    ∀ (D : Ends) (a st cl an ap wb m al ao : Addr) (bad non wro : V) (i : Nat) (B : Nat) (G : Hp) (fo du : Addr) (ns : List Str) (ps : List Pr) (wt : Pr → Int) (rs us : List (Str × V)) (o9 o15 o16 : Option V) (H : Hp), SH G st cl PT fo du B rs us H → GF G C an wb m bad non wro ns ps wt → 
      (∀ (hp th : Addr) (H' : Hp), SH G st cl PT fo du B rs us H' → H' hp = some (.tup [.ref th]) → H' th = some (.lst [.non, .str "late"]) → D.nx [some (.ref a), some (.ref st), some (.int i), some (.ref an), some (.ref ap), some (.ref wb), some (.ref m), some (.ref al), some (.ref ao), o9, some (bad), some (non), some (wro), some (.ref fo), some (.ref du), o15, some (.ref hp), none] H') →
      t D [some (.ref a), some (.ref st), some (.int i), some (.ref an), some (.ref ap), some (.ref wb), some (.ref m), some (.ref al), some (.ref ao), o9, some (bad), some (non), some (wro), some (.ref fo), some (.ref du), o15, o16, none] H := by
  have sc := sc_law
  refine ⟨_, ((ps_set (i := 16) sc.nd rfl (by first | exact Or.inl rfl | exact Or.inr rfl) (pe_held (k := 10) (y := "_law_made") (b := "_law_thing") (mk_outer (q2 := lawQ2) L.TB rfl) L.d_held (hr.mono (by decide)) (lamS1_by (show lamS1B lawN (defScope s_law) _ _ = true by decide +kernel)) (by decide +kernel) rfl (fun _ _ _ _ _ _ => rfl) (fun A2 outer2 s2 H2 f2 c2 hr2 => (pe_met (k := 8) (y := "_law_made") (Pre := fun H => Tab2 lawQ lawQ2 PT H ∧ CodeUp lawQ lawQ2 PT H c2) (Post := fun H _ => Tab2 lawQ lawQ2 PT H) (mk_inner (P := PT) (q := lawQ) L.TB.bm rfl) L.d_met L.eW L.eN L.eB L.EK (hr2.mono (by decide)) (lamS_by rfl) (by decide +kernel) rfl (fun _ _ _ _ _ => rfl) (fun A3 outer3 s3 H3 E3 f3 c3 hr3 => (pe_has L.d_with_answer (hr3.mono (by decide)) (passes_call (takes_of rfl rfl rfl rfl) (fun _ _ _ _ h => h)) (by exact (pa_cons (pv 6) (pa_cons (pv 18) (pa_cons pe_non pa_nil))))))))))), fun D a st cl an ap wb m al ao bad non wro i B G fo du ns ps wt rs us o9 o15 o16 H h g k => ?_⟩
  refine ⟨h.T, fun c1 H1 eN ⟨T1, up1⟩ => ?_⟩
  have h1 := h.extN eN T1
  intro th hth Kp kp
  have h2 := h1.up (Ex.new (o := .lst [.non]) hth)
  have ht2 := upd_same (H := H1) (a := th) (o := .lst [.non])
  have up2 := up1.ext (Ex.new (o := .lst [.non]) hth)
  have Gt : G th = none := fresh_back h1.ex hth
  have nfo : th ≠ fo := fun z => by
    obtain ⟨vs, q, _⟩ := h1.hf
    rw [← z, hth] at q
    cases q
  have ndu : th ≠ du := fun z => by
    obtain ⟨vs, q, _⟩ := h1.hd
    rw [← z, hth] at q
    cases q
  have nst := h1.S.ne hth
  generalize upd H1 th (.lst [.non]) = H2 at h2 ht2 up2 ⊢
  refine ⟨⟨h2.T, up2⟩, fun c2 H3 eN3 T3 => ?_⟩
  have h3 := h2.extN eN3 T3
  have ht3 := eN3 _ _ ht2 (fun _ z => by cases z)
  refine ⟨.ref m, rfl, .ref th, rfl, m, srt ns, srt ps, .ref th, .non, rfl, g.dm.mono h3.ex, Or.inr (Or.inl ⟨⟨⟨_, .lst ht3⟩, fun x e => by cases e⟩, fun dd hdd => Or.inr (Or.inl ⟨rfl, dd, _, .ref th, rfl, upd_same, rfl, (by show 2 ≤ sizeLine; decide), fun p hp => ?_⟩)⟩)⟩
  have h4 := (h3.up (Ex.new (o := .xd [("thing", .ref th)]) hdd)).up (Ex.new (o := .tup [.str "statement", .ref th]) hp)
  have ht4 := (Ex.new (o := .tup [.str "statement", .ref th]) hp) _ _ ((Ex.new (o := .xd [("thing", .ref th)]) hdd) _ _ ht3)
  refine kp (.ref p) _ p (.str "statement") rfl upd_same ht4 fun p2 hp2 => ?_
  generalize upd (upd H3 dd (.xd [("thing", .ref th)])) p (.tup [.str "statement", .ref th]) = H4 at h4 ht4 hp2 ⊢
  have h5 := (h4.mut (o := .lst [.non, .str "late"]) ht4 Gt nfo ndu nst).up (Ex.new (o := .tup [.ref th]) hp2)
  exact k p2 th _ h5 upd_same (Ex.new hp2 _ _ upd_same)
theorem items_tr {G H : Hp} (e : Ex G H) : ∀ {vs : List V} {rs : List (Str × V)}, Items H vs rs → (∀ r ∈ rs, ∃ t, TrAt G 4 r.2 t) → ∃ ts : List Tr, ∀ {us : List V}, Items H us rs → Paired (TrAt H 5) us ts
  | _, [], _, _ => ⟨[], fun h => by cases h; exact .nil⟩
  | _, r :: rs, .cons _ t, h => by
    obtain ⟨tr, htr⟩ := h r List.mem_cons_self
    obtain ⟨ts, hts⟩ := items_tr e t fun x hx => h x (List.mem_cons_of_mem _ hx)
    refine ⟨.tup [.str r.1, tr] :: ts, fun hu => ?_⟩
    cases hu with
    | cons a b =>
      obtain ⟨p, rfl, hp⟩ := a
      exact .cons (.tup hp (by show 2 ≤ 10000; omega) (.cons (.str 4 _) (.cons (htr.mono e) .nil))) (hts b)
theorem law_s14 (T : Txt K mg) (L : LawH P w K mg base C NS BW BN c PT fR fF) (hr : Room 12 (lawX P w K mg base c f A outer s H0 E).A) : ∃ t, PS (lawX P w K mg base c f A outer s H0 E) (lawS 14) t ∧
    ∀ (D : Ends) (a st cl an ap wb m al ao : Addr) (bad non wro : V) (i : Nat) (B : Nat) (G : Hp) (fo du hp th : Addr) (rs : List (Str × V)) (o9 o15 : Option V) (H : Hp), SH G st cl PT fo du B rs rs H → rs.length ≤ 100 → (∀ r ∈ rs, ∃ t, TrAt G 4 r.2 t) → H hp = some (.tup [.ref th]) → H th = some (.lst [.non, .str "late"]) →
      (∀ H', Ex H H' → D.nx [some (.ref a), some (.ref st), some (.int i), some (.ref an), some (.ref ap), some (.ref wb), some (.ref m), some (.ref al), some (.ref ao), o9, some (bad), some (non), some (wro), some (.ref fo), some (.ref du), o15, some (.ref hp), none] H') →
      t D [some (.ref a), some (.ref st), some (.int i), some (.ref an), some (.ref ap), some (.ref wb), some (.ref m), some (.ref al), some (.ref ao), o9, some (bad), some (non), some (wro), some (.ref fo), some (.ref du), o15, some (.ref hp), none] H := by
  have sc := sc_law
  refine ⟨_, ((ps_if (PW.pt (pw_or (pt_not (pt_val (pe_has L.d_law_same (hr.mono (by decide)) pass0 (by exact (pa_cons (pv 13) (pa_cons (pv 14) pa_nil)))))) (pw_or1 (pt_not (pt_val (pe_has L.d_law_same (hr.mono (by decide)) pass0 (by exact (pa_cons (pv 16) (pa_cons (pe_tup (pa_cons (pe_lst (pa_cons pe_non (pa_cons pe_str pa_nil))) pa_nil)) pa_nil)))))))))
      (pss_one (ps_ret pe_bl))
      pss_nil)), fun D a st cl an ap wb m al ao bad non wro i B G fo du hp th rs o9 o15 H h hl htr hhp hth k => ?_⟩
  obtain ⟨vs, hf, hi⟩ := h.hf
  obtain ⟨us, hd, hj⟩ := h.hd
  obtain ⟨ts, hts⟩ := items_tr h.ex hi htr
  refine ⟨.ref fo, rfl, .ref du, rfl, .ref fo, .ref du, .lst ts, rfl, .lst hf (by rw [items_len hi]; omega) (hts hi), .lst hd (by rw [items_len hj]; omega) (hts hj), fun H1 e1 => ⟨true, rfl, ?_⟩⟩
  refine iteF ⟨.ref hp, rfl, (by show 2 ≤ sizeLine; decide), fun q1 hq1 => ⟨(by show 1 ≤ sizeLine; decide), fun q2 hq2 => ?_⟩⟩
  have x1 := (Ex.new (o := .tup [.ref q1]) hq2) _ _ (upd_same (H := H1) (a := q1) (o := .lst [.non, .str "late"]))
  have x2 := upd_same (H := upd H1 q1 (.lst [.non, .str "late"])) (a := q2) (o := .tup [.ref q1])
  have e2 := (e1.trans (Ex.new (o := .lst [.non, .str "late"]) hq1)).trans (Ex.new (o := .tup [.ref q1]) hq2)
  generalize upd (upd H1 q1 (.lst [.non, .str "late"])) q2 (.tup [.ref q1]) = H2 at x1 x2 e2 ⊢
  have two : ∀ {H' : Hp} {b : Addr}, H' b = some (.lst [.non, .str "late"]) → TrAt H' 5 (.ref b) (.lst [.non, .str "late"]) := fun hb => .lst hb (by show 2 ≤ 10000; omega) (.cons (.non 4) (.cons (.str 4 _) .nil))
  refine ⟨.ref hp, .ref q2, .tup [.lst [.non, .str "late"]], rfl, .tup (e2 _ _ hhp) (by show 1 ≤ 10000; omega) (.cons (two (e2 _ _ hth)) .nil), .tup x2 (by show 1 ≤ 10000; omega) (.cons (two x1) .nil), fun H3 e3 => ⟨true, rfl, iteF ?_⟩⟩
  exact k H3 (e2.trans e3)
end
end K73
set_option maxRecDepth 100000
set_option maxHeartbeats 4000000
namespace K73
open Enc (At enc)
open PySem L2 Evl LamX
section
variable {P : Program} {w : World} {K : PySem.W.Frag} {mg : Str → Option Value} {base : Heap} {C NS BW BN c PT fR fF f : Addr} {A : Around} {outer : List Env} {s : Shared} {H0 : Hp} {E : XK}
theorem law_turn (T : Txt K mg) (L : LawH P w K mg base C NS BW BN c PT fR fF) (hr : Room 12 (lawX P w K mg base c f A outer s H0 E).A) : ∃ t, PSs (lawX P w K mg base c f A outer s H0 E) (forB lawFor) t ∧
    ∀ (D : Ends) (a st cl : Addr) (B i : Nat) (o3 o4 o5 o6 o7 o8 o9 o10 o11 o12 o13 o14 o15 o16 : Option V) (H : Hp), Stm H st cl B → B + 100000 < 2 ^ 40 → Tab2 lawQ lawQ2 PT H →
      (∀ (p3 p4 p5 p6 p7 p8 p9 p10 p11 p12 p13 p14 p15 p16 : Option V) (H' : Hp), Stm H' st cl (B + 20000) → Tab2 lawQ lawQ2 PT H' → D.nx [some (.ref a), some (.ref st), some (.int i), p3, p4, p5, p6, p7, p8, p9, p10, p11, p12, p13, p14, p15, p16, none] H') →
      t D [some (.ref a), some (.ref st), some (.int i), o3, o4, o5, o6, o7, o8, o9, o10, o11, o12, o13, o14, o15, o16, none] H := by
  obtain ⟨t0, r0, q0⟩ := law_s0 (c := c) (f := f) (A := A) (outer := outer) (s := s) (H0 := H0) (E := E) T L hr
  obtain ⟨t1, r1, q1⟩ := law_s1 (c := c) (f := f) (A := A) (outer := outer) (s := s) (H0 := H0) (E := E) T L hr
  obtain ⟨t2, r2, q2⟩ := law_s2 (c := c) (f := f) (A := A) (outer := outer) (s := s) (H0 := H0) (E := E) T L hr
  obtain ⟨t3, r3, q3⟩ := law_s3 (c := c) (f := f) (A := A) (outer := outer) (s := s) (H0 := H0) (E := E) T L hr
  obtain ⟨t4, r4, q4⟩ := law_s4 (c := c) (f := f) (A := A) (outer := outer) (s := s) (H0 := H0) (E := E) T L hr
  obtain ⟨t5, r5, q5⟩ := law_s5 (c := c) (f := f) (A := A) (outer := outer) (s := s) (H0 := H0) (E := E) T L hr
  obtain ⟨t6, r6, q6⟩ := law_s6 (c := c) (f := f) (A := A) (outer := outer) (s := s) (H0 := H0) (E := E) T L hr
  obtain ⟨t7, r7, q7⟩ := law_s7 (c := c) (f := f) (A := A) (outer := outer) (s := s) (H0 := H0) (E := E) T L hr
  obtain ⟨t8, r8, q8⟩ := law_s8 (c := c) (f := f) (A := A) (outer := outer) (s := s) (H0 := H0) (E := E) T L hr
  obtain ⟨t9, r9, q9⟩ := law_s9 (c := c) (f := f) (A := A) (outer := outer) (s := s) (H0 := H0) (E := E) T L hr
  obtain ⟨t10, r10, q10⟩ := law_s10 (c := c) (f := f) (A := A) (outer := outer) (s := s) (H0 := H0) (E := E) T L hr
  obtain ⟨t11, r11, q11⟩ := law_s11 (c := c) (f := f) (A := A) (outer := outer) (s := s) (H0 := H0) (E := E) T L hr
  obtain ⟨t12, r12, q12⟩ := law_s12 (c := c) (f := f) (A := A) (outer := outer) (s := s) (H0 := H0) (E := E) T L hr
  obtain ⟨t13, r13, q13⟩ := law_s13 (c := c) (f := f) (A := A) (outer := outer) (s := s) (H0 := H0) (E := E) T L hr
  obtain ⟨t14, r14, q14⟩ := law_s14 (c := c) (f := f) (A := A) (outer := outer) (s := s) (H0 := H0) (E := E) T L hr
  refine ⟨_, pss_cons r0 (pss_cons r1 (pss_cons r2 (pss_cons r3 (pss_cons r4 (pss_cons r5 (pss_cons r6 (pss_cons r7 (pss_cons r8 (pss_cons r9 (pss_cons r10 (pss_cons r11 (pss_cons r12 (pss_cons r13 (pss_one r14)))))))))))))), fun D a st cl B i o3 o4 o5 o6 o7 o8 o9 o10 o11 o12 o13 o14 o15 o16 H S hB hT k => ?_⟩
  refine q0 _ a st cl B i o3 o4 o5 o6 o7 o8 o9 o10 o11 o12 o13 o14 o15 o16 H S hB fun an ns H1 e1 S1 han nd mem hl => ?_
  have T1 := hT.step S e1
  refine q1 _ a st cl an _ i ns o4 o5 o6 o7 o8 o9 o10 o11 o12 o13 o14 o15 o16 H1 S1 (by omega) han mem hl fun ap ps H2 e2 S2 hap ndp hm hlp => ?_
  have T2 := T1.step S1 e2
  have han2 := off_up e2 _ _ han
  refine q2 _ a st cl an ap _ i ns ps o5 o6 o7 o8 o9 o10 o11 o12 o13 o14 o15 o16 H2 S2 (by omega) han2 nd mem hl hap ndp hm hlp fun wb m qs wt H3 e3 S3 hwb pm w1 dm => ?_
  have T3 := T2.step S2 e3
  have x3 := off_up e3
  refine q3 _ a st cl an ap wb m _ i ps o7 o8 o9 o10 o11 o12 o13 o14 o15 o16 H3 S3 (Enc.mono x3 hap) hlp fun al H4 e4 hal => ?_
  have x4 := off_mono (st := st) (cl := cl) e4
  have S4 := S3.mono e4
  refine q4 _ a st cl an ap wb m al _ i ns ps o8 o9 o10 o11 o12 o13 o14 o15 o16 H4 S4 (x4 _ _ (x3 _ _ han2)) mem hl (Enc.mono x4 (Enc.mono x3 hap)) hlp hal fun ao H5 e5 hao => ?_
  have x5 := off_mono (st := st) (cl := cl) e5
  have S5 := S4.mono e5
  have T5 := Tab2.ext (Tab2.ext T3 e4) e5
  have y5 := x4.trans x5
  have hap5 := Enc.mono y5 (Enc.mono x3 hap)
  have hwb5 := y5 _ _ hwb
  have han5 := y5 _ _ (x3 _ _ han2)
  have dm5 := dm.mono y5
  refine q5 _ a st cl an ap wb m al ao _ i ns ps qs wt o9 o10 o11 o12 o13 o14 o15 o16 H5 S5 (by omega) han5 mem hl hap5 hlp hwb5 pm w1 dm5 (Enc.mono x5 hal) hao fun o9' H6 e6 S6 => ?_
  have T6 := T5.step S5 e6
  have x6 := off_up e6
  refine q6 _ a st cl an ap wb m al ao _ i ns ps qs wt o9' o10 o11 o12 o13 o14 o15 o16 H6 S6 (by omega) mem (Enc.mono x6 hap5) hlp (x6 _ _ hwb5) pm fun bad non H7 e7 S7 bw tb nn tn => ?_
  have T7 := T6.step S6 e7
  have x7 := off_up e7
  refine q7 _ a st cl an ap wb m al ao bad non _ i ns o9' o12 o13 o14 o15 o16 H7 S7 (by omega) fun wro H8 e8 S8 bn tw => ?_
  have T8 := T7.step S7 e8
  have x8 := off_up e8
  have y8 := x6.trans (x7.trans x8)
  refine q8 _ a st cl an ap wb m al ao bad non wro i o9' o13 o14 o15 o16 H8 fun fo du H9 e9 nf nd9 nfd hf hd => ?_
  have g : GF (noT (off st cl H8)) C an wb m bad non wro ns ps wt := ⟨noT_at (y8 _ _ han5), mem, hl, (dm5.mono y8).noT, (wkv_wts (y8 _ _ hwb5) (pm.trans (srt_perm ps).symm) fun q _ => w1 q).noT, ((bw.mono x8).perm (srt_perm ps).symm).noT,
    (let ⟨z, hz⟩ := tb; ⟨z, (hz.mono x8).noT⟩), (nn.mono x8).noT, (let ⟨z, hz⟩ := tn; ⟨z, (hz.mono x8).noT⟩), bn.noT, (let ⟨z, hz⟩ := tw; ⟨z, hz.noT⟩)⟩
  have sub : Ex (noT (off st cl H8)) H8 := noT_sub.trans off_sub
  have h9 := (⟨sub.trans e9, noT_no, S8.mono e9, Tab2.ext T8 e9, ⟨[], hf, .nil⟩, ⟨[], hd, .nil⟩, nfd, S8.ne nf, S8.ne nd9, fresh_back sub nf, fresh_back sub nd9⟩ : SH (noT (off st cl H8)) st cl PT fo du _ [] [] H9)
  refine q9 _ a st cl an ap wb m al ao bad non wro i _ _ fo du ns ps wt o9' o15 o16 H9 h9 g fun o15' H10 h10 => ?_
  refine q10 _ a st cl an ap wb m al ao bad non wro i _ _ fo du ns ps wt _ _ o9' o15' o16 H10 h10 g (by show 4 ≤ 20; omega) (by show 4 ≤ 20; omega) fun H11 h11 => ?_
  refine q11 _ a st cl an ap wb m al ao bad non wro i _ _ fo du ns ps wt _ _ o9' o15' o16 H11 h11 g (by show 5 ≤ 20; omega) (by show 4 ≤ 20; omega) fun H12 h12 => ?_
  refine q12 _ a st cl an ap wb m al ao bad non wro i _ _ fo du ns ps wt _ _ o9' o15' o16 H12 h12 g (by show 5 ≤ 20; omega) (by show 5 ≤ 20; omega) fun o9'' xs H13 hxl hxt h13 => ?_
  refine q13 _ a st cl an ap wb m al ao bad non wro i _ _ fo du ns ps wt _ _ o9'' o15' o16 H13 h13 g fun hp th H14 h14 hhp hth => ?_
  refine q14 _ a st cl an ap wb m al ao bad non wro i _ _ fo du hp th _ o9'' o15' H14 h14 ?_ (fun r hr => ?_) hhp hth fun H15 e15 => ?_
  · rw [List.length_append]
    show 5 + xs.length ≤ 100
    omega
  · rcases List.mem_append.mp hr with hr | hr
    · rcases List.mem_append.mp hr with hr | hr
      · have : r = (("weights" : Str), bad) ∨ r = (("statement" : Str), non) := by
          simp only [List.mem_append, List.mem_cons, List.not_mem_nil, or_false] at hr
          rcases hr with (hr | hr) | (hr | hr)
          · exact .inl hr
          · exact .inr hr
          · exact .inl hr
          · exact .inr hr
        rcases this with rfl | rfl
        · exact g.tb
        · exact g.tn
      · rw [List.mem_singleton.mp hr]
        exact g.tn
    · exact hxt r hr
  · exact k _ _ _ _ _ _ _ _ _ _ _ _ _ _ H15 ((h14.S.mono e15).le (by omega)) (Tab2.ext h14.T e15)
end
end K73
set_option maxRecDepth 100000
set_option maxHeartbeats 4000000
namespace K73
open Enc (At enc)
open PySem L2 Evl LamX
section
variable {P : Program} {w : World} {K : PySem.W.Frag} {mg : Str → Option Value} {base : Heap} {C NS BW BN c PT fR fF f : Addr}
/-- law's promise: of a list of whole numbers it tells True -/
def sp_law (K : PySem.W.Frag) (PT : Addr) : Sp := fun vs H Q _ => ∃ (a : Addr) (cs : List Int), vs = [.ref a] ∧ SqL K H a (cs.map V.int) ∧ H PT = some (.tbl #[]) ∧ ∀ H', Q (.bl true) H'
theorem law_ok {fd : FuncData} (F : Fun K "law" "law" s_law f fd) (hcode : fd.code = .ref c) (T : Txt K mg) (L : LawH P w K mg base C NS BW BN c PT fR fF) : FnOk P w K mg base CX0 13 f fd ["_law_script"] (sp_law K PT) := by
  obtain ⟨oc, od, kV, doc, pm, an, cdv, ct, osl, rfl, lk, hcd⟩ := F.ex
  have hcode : cdv = .ref c := hcode
  subst hcode
  have sc := sc_law
  refine fn_of (N := lawN) (k := 12) lk hcd sc (fun vs H Q E h => by obtain ⟨_, _, h, _⟩ := h; rw [h]; rfl) fun A outer s H vs Q E hr h => ?_
  suffices hh : ∃ t, PSs (lawX P w K mg base c f A outer s H E) (defBody s_law) t ∧ t { nx := fun _ H' => Q .non H', rt := Q } (L2.start lawN vs) H from let ⟨t, h1, h2⟩ := hh; ⟨t, h1.nox, h2⟩
  obtain ⟨a, cs, rfl, hs, hP, q⟩ := h
  obtain ⟨tB, pB, qB⟩ := law_turn (c := c) (f := f) (A := A) (outer := outer) (s := s) (H0 := H) (E := E) T L hr
  refine ⟨_, pss_cons ((ps_set (i := 1) sc.nd rfl (by first | exact Or.inl rfl | exact Or.inr rfl) (pe_has L.d_law_start (hr.mono (by decide)) pass0 (by exact (pa_cons (pv 0) pa_nil))))) (pss_cons (ps_for PassesOwn.never rfl (pi_range1 (by rfl) T.b_range (pa_cons pe_int pa_nil)) (pg_name (i := 2) sc.nd rfl (by first | exact Or.inl rfl | exact Or.inr rfl)) pB) (pss_one (ps_ret pe_bl))), ?_⟩
  refine ⟨_, rfl, a, cs, rfl, Or.inl hs, fun st cl H1 hst hcl e1 S1 => ?_⟩
  have T1 : Tab2 lawQ lawQ2 PT H1 := TabG.nil (e1 _ _ hP)
  refine ⟨3, rfl, by decide, by decide, forG 3 (fun j σ H' => (∃ o2 o3 o4 o5 o6 o7 o8 o9 o10 o11 o12 o13 o14 o15 o16, σ = [some (.ref a), some (.ref st), o2, o3, o4, o5, o6, o7, o8, o9, o10, o11, o12, o13, o14, o15, o16, none]) ∧ Stm H' st cl (20000 * j) ∧ Tab2 lawQ lawQ2 PT H') ⟨⟨_, _, _, _, _, _, _, _, _, _, _, _, _, _, _, rfl⟩, S1, T1⟩ ?_ ?_ ?_ ?_⟩
  · intro j σ H' hj _
    exact hj
  · intro σ H' _
    exact Nat.le_refl 3
  · rintro j σ H' x H2 hj ⟨⟨o2, o3, o4, o5, o6, o7, o8, o9, o10, o11, o12, o13, o14, o15, o16, rfl⟩, S2, T2⟩ hy
    obtain ⟨rfl, rfl⟩ := hy
    rw [show (V.int (0 + (j : Int))) = V.int (j : Int) by rw [Int.zero_add]]
    exact qB _ a st cl (20000 * j) j o3 o4 o5 o6 o7 o8 o9 o10 o11 o12 o13 o14 o15 o16 H2 S2 (by omega) T2 fun p3 p4 p5 p6 p7 p8 p9 p10 p11 p12 p13 p14 p15 p16 H3 S3 T3 => ⟨⟨_, _, _, _, _, _, _, _, _, _, _, _, _, _, _, rfl⟩, S3.le (by omega), T3⟩
  · rintro σ H' _
    exact q H'
end
end K73
set_option maxRecDepth 100000
set_option maxHeartbeats 4000000
namespace K73
open Enc (At enc)
open PySem L2 Evl
section
variable {P : Program} {w : World} {K : PySem.W.Frag} {mg : Str → Option Value} {base : Heap} {C : Addr}
/-- what of the class the text's == asks -/
structure EqTxt (K : PySem.W.Frag) (C f : Addr) : Prop where
  ha : PySem.W.findIn K (.ref C) "__class__" = some (some (.builtin "object.__class__"))
  hn : PySem.W.specialIn K (.builtin "object.__class__") "__get__" = some (some (.builtin "getset_descriptor.__get__"))
  htk : PySem.W.takesIn K (.builtin "object.__class__") = some true
  hm : PySem.W.mroIn K C (.type "object") = some true
  he : PySem.W.findIn K (.ref C) "__eq__" = some (some (.ref f))
  hf : PySem.W.isFn K (.ref f) = true
  hne : PySem.W.findIn K (.ref C) "__ne__" = some (some (.builtin "object.__ne__"))
  hsub : PySem.W.subIn K (.ref C) (.type "object") = some true
abbrev s_Debate_eq : Stmt := inClass (top 21) 4
theorem sc_Debate_eq : FnScope ["self", "other"] ["self", "other"] (defScope s_Debate_eq) := ⟨rfl, rfl, rfl, by decide +kernel, rfl, by decide +kernel, by decide +kernel⟩
theorem kit_same (t : Value) (h : (t == t) = true) : PySem.W.kitOne K t t = some true := by
  unfold PySem.W.kitOne
  rw [if_pos h]
theorem has_eq (T : Txt K mg) (D : DTxt K mg C) {f : Addr} {fd : FuncData} (M : EqTxt K C f) (F : Fun K "__eq__" "Debate.__eq__" s_Debate_eq f fd) : HasEq P w K mg base C 2 := by
  have sc := sc_Debate_eq
  refine ⟨f, fd, ["self", "other"], M.he, M.hf, M.hne, M.hsub, F.ok (k := 1) sc (fun vs H Q E h => by obtain ⟨_, _, _, _, h, _⟩ := h; rw [h]; rfl) (fun cdv A outer s H vs Q E hr h => ?_), F.binds fun _ _ _ _ _ _ us hl => match us, hl with | [_, _], _ => rfl⟩
  obtain ⟨m1, m2, ns, ps, rfl, dm, dm', q⟩ := h
  refine ⟨_, (pss_cons (ps_if (pt_not (pt_val (pe_callB call_isi (by rfl) T.b_isinstance (by decide +kernel) (pa_cons (pv 1) (pa_cons (pe_glob (v := .ref C) rfl D.mgC rfl) pa_nil)))))
      (pss_one (ps_ret pe_bl))
      pss_nil)
    (pss_one (ps_ret (pe_and (pe_cmpR (op_eqA (α := List Str) (by decide) (hu64 hr)) (pe_fldK K rfl (pv 0) rfl) (pe_fldK K rfl (pv 1) rfl) (nomark _)) (pe_one (pe_cmpR (op_eqA (α := List (Str × Str)) (by decide) (hu64 hr)) (pe_fldK K rfl (pv 0) rfl) (pe_fldK K rfl (pv 1) rfl) (nomark _))))))), ?_⟩
  obtain ⟨dx, l1, l2, d1, d2, a1, a2, ws, h0, h1, h2, hW, -⟩ := dm.ex
  obtain ⟨dx', l1', l2', d1', d2', a1', a2', ws', h0', h1', h2', hW', -⟩ := dm'.ex
  refine ⟨_, rfl, _, _, _, _, true, rfl, .own C, .base (.ins h0' D.cl M.ha M.hn M.htk M.hm), kit_same _ (by simp), _, rfl, iteF ?_⟩
  have n1 : At H (.ref l1) ns := at_list h1 (strs_each dm.nms.ok)
  have n2 : At H (.ref l1') ns := at_list h1' (strs_each dm.nms.ok)
  refine ⟨_, rfl, m1, C, dx, _, .ref l1, rfl, h0, D.cl, D.nS, look_S _ _ _ _, _, rfl, m2, C, dx', _, .ref l1', rfl, h0', D.cl, D.nS, look_S _ _ _ _, ns, ns, n1, n2, _, rfl, iteD rfl ?_⟩
  refine ⟨_, rfl, m1, C, dx, _, .ref l2, rfl, h0, D.cl, D.nO, look_O _ _ _ _, _, rfl, m2, C, dx', _, .ref l2', rfl, h0', D.cl, D.nO, look_O _ _ _ _, ps, ps, at_list h2 hW, at_list h2' hW', ?_⟩
  rw [decide_eq_true rfl]
  exact q _ (Ex.refl _)
end
end K73
set_option maxRecDepth 100000
set_option maxHeartbeats 4000000
namespace K73
open Enc (At enc)
open PySem L2 Evl LamX
/-! ### the errors' classes -/
def oexB (K : PySem.W.Frag) (C : Addr) : Bool := match K.lookup C with
  | some ⟨.type c, _, .cls cd, sl⟩ => (match cd.mro, sl.toList with
    | .ref C' :: bm, [_, _, _, _, some (.builtin n), _] => decide (c = "type") && (decide (C' = C) && (decide (n = "ValueError.__new__") && (!cd.hasDel && (cd.hasDict && PySem.HandSPX.refsVE bm))))
    | _, _ => false)
  | _ => false
theorem oexB_ok {K : PySem.W.Frag} {C : Addr} (h : oexB K C = true) : ∃ nm q N bs bm sn sub ab col dd k0 k1 k2 k3 k5, K.lookup C = some (excClassObj nm q C N bs bm true sn sub ab col dd k0 k1 k2 k3 k5 "ValueError.__new__") ∧ PySem.HandSPX.refsVE bm = true := by
  unfold oexB at h
  split at h
  · rename_i c dd cd sl ho
    split at h
    · rename_i C' bm k0 k1 k2 k3 n k5 hm hs
      simp only [Bool.and_eq_true, decide_eq_true_eq, Bool.not_eq_true'] at h
      obtain ⟨rfl, rfl, rfl, hdel, hdic, hr⟩ := h
      obtain ⟨nm, bs, mro, N, q, hd, sn, sub, ab, col, dl⟩ := cd
      dsimp only at hm hdel hdic
      subst hm hdel hdic
      have e : sl = #[k0, k1, k2, k3, some (.builtin "ValueError.__new__"), k5] := by
        obtain ⟨l⟩ := sl
        exact congrArg Array.mk hs
      subst e
      exact ⟨nm, q, N, bs, bm, sn, sub, ab, col, dd, k0, k1, k2, k3, k5, ho, hr⟩
    · cases h
  · cases h
def errB (K : PySem.W.Frag) (f : Str) (C fI : Addr) : Bool := oexB K C && (He.eqO (PySem.W.findIn K (.ref C) "__setattr__") (some (some (.builtin "object.__setattr__"))) && (decide (PySem.W.subIn K (.ref C) (.type "BaseException") = some true) && (decide (PySem.W.typeIn K (.ref C) = some (.type "type")) && (PySem.W.keepIn K (.ref C) &&
  (He.eqO (PySem.W.findIn K (.ref C) f) (some none) && (He.eqO (PySem.W.findIn K (.ref C) "__getattribute__") (some (some (.builtin "BaseException.__getattribute__"))) && (He.eqO (PySem.W.findIn K (.ref C) "__getattr__") (some none) && (PySem.W.hasDictIn K C &&
  (He.eqO (PySem.W.findIn K (.ref C) "__init__") (some (some (.ref fI))) && decide (PySem.W.typeIn K (.ref fI) = some (.type "function")))))))))))
section
variable {P : Program} {w : World} {K : PySem.W.Frag} {mg : Str → Option Value} {base : Heap} {C NS BW BN c PT fI fE fS fO C1 f1 : Addr}
theorem hasErr_of {x f q : Str} {st : Stmt} {fd : FuncData} {p1 p2 p3 p4 : Pos} (h : errB K f C1 f1 = true) (hg : mg x = some (.ref C1)) (F : Fun K "__init__" q st f1 fd) (sc : FnScope ["self", f] ["self", f] (defScope st)) (hb : Binds K fd ["self", f] [])
    (ok : OexC K C1 → PySem.W.findIn K (.ref C1) f = some none → FnOk P w K mg base CX0 1 f1 fd ["self", f] (spErr f C1)) : HasErr P w K mg base x f C1 := by
  unfold errB at h
  obtain ⟨h1, h⟩ := He.ba h
  obtain ⟨h2, h⟩ := He.ba h
  obtain ⟨h3, h⟩ := He.ba h
  obtain ⟨h4, h⟩ := He.ba h
  obtain ⟨h5, h⟩ := He.ba h
  obtain ⟨h6, h⟩ := He.ba h
  obtain ⟨h7, h⟩ := He.ba h
  obtain ⟨h8, h⟩ := He.ba h
  obtain ⟨h9, h⟩ := He.ba h
  obtain ⟨h10, h11⟩ := He.ba h
  have O : OexC K C1 := ⟨oexB_ok h1, He.eqO_ok h2, of_decide_eq_true h3, of_decide_eq_true h4, h5⟩
  exact ⟨O, hg, He.eqO_ok h6, He.eqO_ok h7, He.eqO_ok h8, h9, f1, fd, He.eqO_ok h10, of_decide_eq_true h11, ok O (He.eqO_ok h6), hb⟩
abbrev s_BadName : Stmt := inClass (top 3) 0
theorem sc_BadName : FnScope ["self", "thing"] ["self", "thing"] (defScope s_BadName) := ⟨rfl, rfl, rfl, by decide +kernel, rfl, by decide +kernel, by decide +kernel⟩
theorem err_BadName {fd : FuncData} (h : errB K "thing" C1 f1 = true) (hg : mg "BadName" = some (.ref C1)) (F : Fun K "__init__" "BadName.__init__" s_BadName f1 fd) : HasErr P w K mg base "BadName" "thing" C1 := by
  have sc := sc_BadName
  refine hasErr_of (p1 := default) (p2 := default) (p3 := default) (p4 := default) h hg F sc (F.binds fun _ _ _ _ _ _ us hl => match us, hl with | [_, _], _ => rfl) fun O hno => F.ok (k := 0) sc (fun vs H Q E h => by obtain ⟨_, _, h, _⟩ := h; rw [h]; rfl) (fun cdv A outer s H vs Q E hr h => ?_)
  obtain ⟨a, v, rfl, ha, q⟩ := h
  exact ⟨_, pss_one (ps_ost (pv 0) (pv 1)), v, rfl, .ref a, rfl, a, C1, rfl, O, hno, .inl ⟨ha, fun dx n ne => q dx n ne⟩⟩
abbrev s_BadWeights : Stmt := inClass (top 7) 0
theorem sc_BadWeights : FnScope ["self", "thing"] ["self", "thing"] (defScope s_BadWeights) := ⟨rfl, rfl, rfl, by decide +kernel, rfl, by decide +kernel, by decide +kernel⟩
theorem err_BadWeights {fd : FuncData} (h : errB K "thing" C1 f1 = true) (hg : mg "BadWeights" = some (.ref C1)) (F : Fun K "__init__" "BadWeights.__init__" s_BadWeights f1 fd) : HasErr P w K mg base "BadWeights" "thing" C1 := by
  have sc := sc_BadWeights
  refine hasErr_of (p1 := default) (p2 := default) (p3 := default) (p4 := default) h hg F sc (F.binds fun _ _ _ _ _ _ us hl => match us, hl with | [_, _], _ => rfl) fun O hno => F.ok (k := 0) sc (fun vs H Q E h => by obtain ⟨_, _, h, _⟩ := h; rw [h]; rfl) (fun cdv A outer s H vs Q E hr h => ?_)
  obtain ⟨a, v, rfl, ha, q⟩ := h
  exact ⟨_, pss_one (ps_ost (pv 0) (pv 1)), v, rfl, .ref a, rfl, a, C1, rfl, O, hno, .inl ⟨ha, fun dx n ne => q dx n ne⟩⟩
abbrev s_NoStatement : Stmt := inClass (top 8) 0
theorem sc_NoStatement : FnScope ["self", "thing"] ["self", "thing"] (defScope s_NoStatement) := ⟨rfl, rfl, rfl, by decide +kernel, rfl, by decide +kernel, by decide +kernel⟩
theorem err_NoStatement {fd : FuncData} (h : errB K "thing" C1 f1 = true) (hg : mg "NoStatement" = some (.ref C1)) (F : Fun K "__init__" "NoStatement.__init__" s_NoStatement f1 fd) : HasErr P w K mg base "NoStatement" "thing" C1 := by
  have sc := sc_NoStatement
  refine hasErr_of (p1 := default) (p2 := default) (p3 := default) (p4 := default) h hg F sc (F.binds fun _ _ _ _ _ _ us hl => match us, hl with | [_, _], _ => rfl) fun O hno => F.ok (k := 0) sc (fun vs H Q E h => by obtain ⟨_, _, h, _⟩ := h; rw [h]; rfl) (fun cdv A outer s H vs Q E hr h => ?_)
  obtain ⟨a, v, rfl, ha, q⟩ := h
  exact ⟨_, pss_one (ps_ost (pv 0) (pv 1)), v, rfl, .ref a, rfl, a, C1, rfl, O, hno, .inl ⟨ha, fun dx n ne => q dx n ne⟩⟩
/-- the defs of the text -/
structure Defs (K : PySem.W.Frag) (mg : Str → Option Value) : Prop where
  is_list : Def K mg "is_list" s_is_list
  is_integer : Def K mg "is_integer" s_is_integer
  is_name : Def K mg "is_name" s_is_name
  as_tuples : Def K mg "as_tuples" s_as_tuples
  checked_statements : Def K mg "checked_statements" s_checked_statements
  is_pair_of : Def K mg "is_pair_of" s_is_pair_of
  checked_objections : Def K mg "checked_objections" s_checked_objections
  checked_statement : Def K mg "checked_statement" s_checked_statement
  checked_way : Def K mg "checked_way" s_checked_way
  hit_by : Def K mg "hit_by" s_hit_by
  answered_in : Def K mg "answered_in" s_answered_in
  least_lot : Def K mg "least_lot" s_least_lot
  unanswered_in : Def K mg "unanswered_in" s_unanswered_in
  calm_with : Def K mg "calm_with" s_calm_with
  held_lots : Def K mg "held_lots" s_held_lots
  lots_in : Def K mg "lots_in" s_lots_in
  all_parts : Def K mg "all_parts" s_all_parts
  without_pairs : Def K mg "without_pairs" s_without_pairs
  checked_weights : Def K mg "checked_weights" s_checked_weights
  overheard_in : Def K mg "overheard_in" s_overheard_in
  cheapest_with : Def K mg "cheapest_with" s_cheapest_with
  cheapest_rise : Def K mg "cheapest_rise" s_cheapest_rise
  cheapest_fall : Def K mg "cheapest_fall" s_cheapest_fall
  with_answer : Def K mg "with_answer" s_with_answer
  all_prices : Def K mg "all_prices" s_all_prices
  prices_with : Def K mg "prices_with" s_prices_with
  least_budget : Def K mg "least_budget" s_least_budget
  stands : Def K mg "stands" s_stands
  law_draw : Def K mg "_law_draw" s_law_draw
  law_start : Def K mg "_law_start" s_law_start
  law_pick : Def K mg "_law_pick" s_law_pick
  law_mixed : Def K mg "_law_mixed" s_law_mixed
  law_loose : Def K mg "_law_loose" s_law_loose
  law_each_once : Def K mg "_law_each_once" s_law_each_once
  law_d_names : Def K mg "_law_d_names" s_law_d_names
  law_d_pairs : Def K mg "_law_d_pairs" s_law_d_pairs
  law_m_parts : Def K mg "_law_m_parts" s_law_m_parts
  law_m_one : Def K mg "_law_m_one" s_law_m_one
  law_m_sum : Def K mg "_law_m_sum" s_law_m_sum
  law_m_is_weight : Def K mg "_law_m_is_weight" s_law_m_is_weight
  law_m_are_weights : Def K mg "_law_m_are_weights" s_law_m_are_weights
  law_m_left : Def K mg "_law_m_left" s_law_m_left
  law_m_weights : Def K mg "_law_m_weights" s_law_m_weights
  law_m_odd_weights : Def K mg "_law_m_odd_weights" s_law_m_odd_weights
  law_d_objectors : Def K mg "_law_d_objectors" s_law_d_objectors
  law_d_hits : Def K mg "_law_d_hits" s_law_d_hits
  law_d_answers : Def K mg "_law_d_answers" s_law_d_answers
  law_d_answered : Def K mg "_law_d_answered" s_law_d_answered
  law_least : Def K mg "_law_least" s_law_least
  law_same : Def K mg "_law_same" s_law_same
  law_first_list : Def K mg "_law_first_list" s_law_first_list
  law_name_right : Def K mg "_law_name_right" s_law_name_right
  law_answer_right : Def K mg "_law_answer_right" s_law_answer_right
  law_met : Def K mg "_law_met" s_law_met
  law_m_held : Def K mg "_law_m_held" s_law_m_held
theorem law_hyp (T : Txt K mg) (D : DTxt K mg C) (dd : Defs K mg) {fdI fdS fdO fdE : FuncData} (mI : Mk K C fI) (FI : Fun K "__init__" "Debate.__init__" s_Debate_init fI fdI) (mS : Meth K C "statements" fS) (FS : Fun K "statements" "Debate.statements" s_Debate_statements fS fdS)
    (mO : Meth K C "objections" fO) (FO : Fun K "objections" "Debate.objections" s_Debate_objections fO fdO) (mE : EqTxt K C fE) (FE : Fun K "__eq__" "Debate.__eq__" s_Debate_eq fE fdE) (eW : HasErr P w K mg base "BadWeights" "thing" BW) (eN : HasErr P w K mg base "NoStatement" "thing" NS)
    (eB : HasErr P w K mg base "BadName" "thing" BN) (EK : ErrsK K BW NS BN) (TB : TabB base mg c PT) : ∃ fR fF, LawH P w K mg base C NS BW BN c PT fR fF := by
  have d_statements := has_statements (P := P) (w := w) (base := base) T D mS FS
  have d_objections := has_objections (P := P) (w := w) (base := base) T D mO FO
  have d_eq := has_eq (P := P) (w := w) (base := base) T D mE FE
  have d_is_list := has_is_list (P := P) (w := w) (base := base) T dd.is_list
  have d_is_integer := has_is_integer (P := P) (w := w) (base := base) T dd.is_integer
  have d_is_name := has_is_name (P := P) (w := w) (base := base) T dd.is_name
  have d_as_tuples := has_as_tuples (P := P) (w := w) (base := base) T dd.as_tuples d_is_list (has_as_tuples0 T dd.as_tuples d_is_list (has_no dd.as_tuples fun F => F.binds fun _ _ _ _ _ _ us hl => match us, hl with | [_], _ => rfl))
  have d_checked_statements := has_checked_statements (P := P) (w := w) (base := base) T dd.checked_statements d_is_list d_is_name
  have d_is_pair_of := has_is_pair_of (P := P) (w := w) (base := base) T dd.is_pair_of d_is_list
  have d_checked_objections := has_checked_objections (P := P) (w := w) (base := base) T dd.checked_objections d_is_list d_as_tuples d_is_pair_of
  have d_Debate := mk_Debate (P := P) (w := w) (base := base) T D mI FI d_checked_statements d_checked_objections
  have d_checked_statement := has_checked_statement (P := P) (w := w) (base := base) T dd.checked_statement eN D
  have d_checked_way := has_checked_way (P := P) (w := w) (base := base) T dd.checked_way
  have d_hit_by := has_hit_by (P := P) (w := w) (base := base) T dd.hit_by D
  have d_answered_in := has_answered_in (P := P) (w := w) (base := base) T dd.answered_in d_hit_by D
  have d_least_lot := has_least_lot (P := P) (w := w) (base := base) T dd.least_lot d_answered_in
  have d_unanswered_in := has_unanswered_in (P := P) (w := w) (base := base) T dd.unanswered_in d_hit_by D
  have d_calm_with := has_calm_with (P := P) (w := w) (base := base) T dd.calm_with D
  have d_held_lots := has_held_lots (P := P) (w := w) (base := base) T dd.held_lots d_calm_with d_unanswered_in D
  have d_lots_in := has_lots_in (P := P) (w := w) (base := base) T dd.lots_in d_held_lots
  have d_all_partsP := has_all_parts (α := Pr) (P := P) (w := w) (base := base) T dd.all_parts
  have d_all_partsS := has_all_parts (α := Str) (P := P) (w := w) (base := base) T dd.all_parts
  have d_without_pairs := has_without_pairs (P := P) (w := w) (base := base) T dd.without_pairs d_Debate D
  have d_checked_weights := has_checked_weights (P := P) (w := w) (base := base) T dd.checked_weights eW d_is_integer D
  have d_overheard_in := has_overheard_in (P := P) (w := w) (base := base) T dd.overheard_in D
  have d_cheapest_with := has_cheapest_with (P := P) (w := w) (base := base) T dd.cheapest_with d_all_partsP d_least_lot d_without_pairs D
  have d_cheapest_rise := has_cheapest_rise (P := P) (w := w) (base := base) T dd.cheapest_rise d_checked_weights d_cheapest_with d_checked_statement
  obtain ⟨d_cheapest_rise, d_KWcheapest_rise⟩ := d_cheapest_rise
  have d_cheapest_fall := has_cheapest_fall (P := P) (w := w) (base := base) T dd.cheapest_fall d_checked_weights d_cheapest_with d_checked_statement
  obtain ⟨d_cheapest_fall, d_KWcheapest_fall⟩ := d_cheapest_fall
  have d_with_answer := has_with_answer (P := P) (w := w) (base := base) T dd.with_answer d_checked_statement eB d_Debate d_is_name D
  obtain ⟨d_with_answer, d_KWwith_answer⟩ := d_with_answer
  have d_all_prices := has_all_prices (P := P) (w := w) (base := base) T dd.all_prices d_all_partsS d_overheard_in D
  have d_prices_with := has_prices_with (P := P) (w := w) (base := base) T dd.prices_with d_checked_weights d_checked_statement d_all_prices
  have d_least_budget := has_least_budget (P := P) (w := w) (base := base) T dd.least_budget d_prices_with
  have d_stands := has_stands (P := P) (w := w) (base := base) T dd.stands d_checked_way d_checked_statement d_lots_in
  have d_law_draw := has_law_draw (P := P) (w := w) (base := base) T dd.law_draw
  have d_law_start := has_law_start (P := P) (w := w) (base := base) T dd.law_start
  have d_law_pick := has_law_pick (P := P) (w := w) (base := base) T dd.law_pick d_law_draw
  have d_law_mixed := has_law_mixed (P := P) (w := w) (base := base) T dd.law_mixed d_law_draw
  have d_law_loose := has_law_loose2 (P := P) (w := w) (base := base) T dd.law_loose (has_law_loose1 T dd.law_loose (has_law_loose0 T dd.law_loose (has_no dd.law_loose fun F => F.binds fun _ _ _ _ _ _ us hl => match us, hl with | [_, _], _ => rfl) d_law_draw) d_law_draw) d_law_draw
  have d_law_each_once := has_law_each_once (P := P) (w := w) (base := base) T dd.law_each_once
  have d_law_d_names := has_law_d_names (P := P) (w := w) (base := base) T dd.law_d_names d_law_mixed
  have d_law_d_pairs := has_law_d_pairs (P := P) (w := w) (base := base) T dd.law_d_pairs d_law_mixed d_law_draw d_law_each_once d_law_pick
  have d_law_m_parts := has_law_m_parts (P := P) (w := w) (base := base) T dd.law_m_parts
  have d_law_m_one := has_law_m_one (P := P) (w := w) (base := base) T dd.law_m_one d_statements d_objections
  have d_law_m_sum := has_law_m_sum (P := P) (w := w) (base := base) T dd.law_m_sum
  have d_law_m_is_weight := has_law_m_is_weight (P := P) (w := w) (base := base) T dd.law_m_is_weight
  have d_law_m_are_weights := has_law_m_are_weights (P := P) (w := w) (base := base) T dd.law_m_are_weights d_law_m_is_weight
  have d_law_m_left := has_law_m_left (P := P) (w := w) (base := base) T dd.law_m_left
  have d_law_m_weights := has_law_m_weights (P := P) (w := w) (base := base) T dd.law_m_weights d_law_pick d_law_mixed d_law_draw
  have d_law_m_odd_weights := has_law_m_odd_weights (P := P) (w := w) (base := base) T dd.law_m_odd_weights d_law_pick d_law_m_are_weights
  have d_law_d_objectors := has_law_d_objectors (P := P) (w := w) (base := base) T dd.law_d_objectors
  have d_law_d_hits := has_law_d_hits (P := P) (w := w) (base := base) T dd.law_d_hits d_law_d_objectors
  have d_law_d_answers := has_law_d_answers (P := P) (w := w) (base := base) T dd.law_d_answers d_law_d_hits d_law_d_objectors
  have d_law_d_answered := has_law_d_answered (P := P) (w := w) (base := base) T dd.law_d_answered d_law_d_answers
  have d_law_least := has_law_least (P := P) (w := w) (base := base) T dd.law_least d_law_d_answered
  have d_law_first_list := has_law_first_list (P := P) (w := w) (base := base) T dd.law_first_list d_law_m_sum
  have d_law_name_right := has_law_name_right (P := P) (w := w) (base := base) T dd.law_name_right d_law_first_list d_cheapest_rise d_cheapest_fall d_KWcheapest_rise d_KWcheapest_fall (has_law_same T dd.law_same 4) d_least_budget d_law_d_objectors
  have d_law_answer_right := has_law_answer_right (P := P) (w := w) (base := base) T dd.law_answer_right d_with_answer (has_law_same T dd.law_same 4) d_KWwith_answer d_stands d_least_lot d_law_m_one d_law_d_objectors d_eq
  obtain ⟨fR, fdR, oR, gR, kR, bR⟩ := d_cheapest_rise
  obtain ⟨fF, fdF, oF, gF, kF, bF⟩ := d_cheapest_fall
  have imp : ∀ {b : Bool} (vs : List V) (H : Hp) (Q : VK) (E : XK), sp_fail C NS BW vs H Q E → sp_cheapest C NS BW b vs H Q E := fun vs H Q E ⟨m, ns, ps, v, u, h1, h2, h3⟩ => ⟨m, ns, ps, v, u, h1, h2, Or.inr h3⟩
  refine ⟨fR, fF, { TB := TB, eW := eW, eN := eN, eB := eB, EK := EK, mR := gR, mF := gF, d_met := dd.law_met, d_held := dd.law_m_held, d_law_same := has_law_same T dd.law_same 6, d_law_start := d_law_start, d_law_d_names := d_law_d_names, d_law_pick := d_law_pick, d_law_draw := d_law_draw, d_law_d_pairs := d_law_d_pairs, d_law_m_weights := d_law_m_weights, d_Debate := d_Debate, d_law_m_parts := d_law_m_parts, d_law_least := d_law_least, d_law_mixed := d_law_mixed, d_law_m_odd_weights := d_law_m_odd_weights, d_law_loose := d_law_loose, d_law_m_left := d_law_m_left, d_law_name_right := d_law_name_right, d_law_answer_right := d_law_answer_right, d_with_answer := d_with_answer, hAsk := fun f hf => ?_ }⟩
  rcases hf with rfl | rfl
  · exact ⟨fdR, _, oR.imp imp, kR, bR⟩
  · exact ⟨fdF, _, oF.imp imp, kF, bF⟩
end
end K73
set_option maxRecDepth 100000
set_option maxHeartbeats 4000000
namespace K73
open Enc (At enc)
open PySem PySem.Spec PyProof.Rows L2 Evl LamX
/-! ### what is looked at behind the top -/
def dfn (x : Str) (st : Stmt) : He.DefD := ⟨(x, none), x, x, defArgs st, defBody st, defScope st, [], []⟩
def mtd (c m q : Str) (st : Stmt) : He.DefD := ⟨(c, some m), m, q, defArgs st, defBody st, defScope st, [], []⟩
def fns0 : List He.DefD := [dfn "is_list" s_is_list, dfn "is_integer" s_is_integer, dfn "is_name" s_is_name, dfn "as_tuples" s_as_tuples, dfn "checked_statements" s_checked_statements, dfn "is_pair_of" s_is_pair_of, dfn "checked_objections" s_checked_objections, dfn "checked_statement" s_checked_statement, dfn "checked_way" s_checked_way, dfn "hit_by" s_hit_by, dfn "answered_in" s_answered_in, dfn "least_lot" s_least_lot, dfn "unanswered_in" s_unanswered_in, dfn "calm_with" s_calm_with, dfn "held_lots" s_held_lots, dfn "lots_in" s_lots_in, dfn "all_parts" s_all_parts, dfn "without_pairs" s_without_pairs, dfn "checked_weights" s_checked_weights, dfn "overheard_in" s_overheard_in, dfn "cheapest_with" s_cheapest_with, dfn "cheapest_rise" s_cheapest_rise, dfn "cheapest_fall" s_cheapest_fall, dfn "with_answer" s_with_answer, dfn "all_prices" s_all_prices, dfn "prices_with" s_prices_with, dfn "least_budget" s_least_budget, dfn "stands" s_stands, dfn "_law_draw" s_law_draw, dfn "_law_start" s_law_start]
def fns1 : List He.DefD := [dfn "_law_pick" s_law_pick, dfn "_law_mixed" s_law_mixed, dfn "_law_loose" s_law_loose, dfn "_law_each_once" s_law_each_once, dfn "_law_d_names" s_law_d_names, dfn "_law_d_pairs" s_law_d_pairs, dfn "_law_m_parts" s_law_m_parts, dfn "_law_m_one" s_law_m_one, dfn "_law_m_sum" s_law_m_sum, dfn "_law_m_is_weight" s_law_m_is_weight, dfn "_law_m_are_weights" s_law_m_are_weights, dfn "_law_m_left" s_law_m_left, dfn "_law_m_weights" s_law_m_weights, dfn "_law_m_odd_weights" s_law_m_odd_weights, dfn "_law_d_objectors" s_law_d_objectors, dfn "_law_d_hits" s_law_d_hits, dfn "_law_d_answers" s_law_d_answers, dfn "_law_d_answered" s_law_d_answered, dfn "_law_least" s_law_least, dfn "_law_same" s_law_same, dfn "_law_first_list" s_law_first_list, dfn "_law_name_right" s_law_name_right, dfn "_law_answer_right" s_law_answer_right, dfn "_law_met" s_law_met, dfn "_law_m_held" s_law_m_held, dfn "law" s_law, mtd "Debate" "__init__" "Debate.__init__" s_Debate_init, mtd "Debate" "statements" "Debate.statements" s_Debate_statements, mtd "Debate" "objections" "Debate.objections" s_Debate_objections, mtd "Debate" "__eq__" "Debate.__eq__" s_Debate_eq]
def fns2 : List He.DefD := [mtd "BadWeights" "__init__" "BadWeights.__init__" s_BadWeights, mtd "NoStatement" "__init__" "NoStatement.__init__" s_NoStatement, mtd "BadName" "__init__" "BadName.__init__" s_BadName]
def fns : List He.DefD := fns0 ++ (fns1 ++ (fns2))
def fas0 : List He.Fa := [.glo "is_list", .glo "is_integer", .glo "is_name", .glo "as_tuples", .glo "checked_statements", .glo "is_pair_of", .glo "checked_objections", .glo "checked_statement", .glo "checked_way", .glo "hit_by", .glo "answered_in", .glo "least_lot", .glo "unanswered_in", .glo "calm_with", .glo "held_lots", .glo "lots_in", .glo "all_parts", .glo "without_pairs", .glo "checked_weights", .glo "overheard_in", .glo "cheapest_with", .glo "cheapest_rise", .glo "cheapest_fall", .glo "with_answer", .glo "all_prices", .glo "prices_with", .glo "least_budget", .glo "stands", .glo "_law_draw", .glo "_law_start"]
def fas1 : List He.Fa := [.glo "_law_pick", .glo "_law_mixed", .glo "_law_loose", .glo "_law_each_once", .glo "_law_d_names", .glo "_law_d_pairs", .glo "_law_m_parts", .glo "_law_m_one", .glo "_law_m_sum", .glo "_law_m_is_weight", .glo "_law_m_are_weights", .glo "_law_m_left", .glo "_law_m_weights", .glo "_law_m_odd_weights", .glo "_law_d_objectors", .glo "_law_d_hits", .glo "_law_d_answers", .glo "_law_d_answered", .glo "_law_least", .glo "_law_same", .glo "_law_first_list", .glo "_law_name_right", .glo "_law_answer_right", .glo "_law_met", .glo "_law_m_held", .glo "law", .glo "Debate", .glo "BadWeights", .glo "NoStatement", .glo "BadName"]
def fas2 : List He.Fa := [.glo "WAYS", .free "isinstance", .free "len", .free "all", .free "any", .free "sum", .free "sorted", .free "min", .free "list", .free "tuple", .free "dict", .free "int", .free "str", .free "bool", .free "range", .free "enumerate", .free "zip", .str "SMALL" smallS, .str "FIGURES" figS, .cls "Debate", .noat "Debate" fS, .noat "Debate" fO, .noat "Debate" fR, .noat "Debate" fD, .meth "Debate" "statements", .meth "Debate" "objections", .mkr "Debate", .exm "BadWeights" "BadWeights" true, .exm "NoStatement" "BadWeights" false, .exm "NoStatement" "NoStatement" true]
def fas3 : List He.Fa := [.exm "BadName" "BadWeights" false, .exm "BadName" "NoStatement" false, .exm "BadName" "BadName" true]
def fas : List He.Fa := fas0 ++ (fas1 ++ (fas2 ++ (fas3)))
def eqtB (K : PySem.W.Frag) (C f : Addr) : Bool := He.eqO (PySem.W.findIn K (.ref C) "__class__") (some (some (.builtin "object.__class__"))) && (He.eqO (PySem.W.specialIn K (.builtin "object.__class__") "__get__") (some (some (.builtin "getset_descriptor.__get__"))) && (decide (PySem.W.takesIn K (.builtin "object.__class__") = some true) &&
  (decide (PySem.W.mroIn K C (.type "object") = some true) && (He.eqO (PySem.W.findIn K (.ref C) "__eq__") (some (some (.ref f))) && (PySem.W.isFn K (.ref f) && (He.eqO (PySem.W.findIn K (.ref C) "__ne__") (some (some (.builtin "object.__ne__"))) && decide (PySem.W.subIn K (.ref C) (.type "object") = some true)))))))
def waysD : List He.Dv := [.str "calm", .str "held", .str "whole", .str "least", .str "greatest", .str "settled"]
def erB (K : PySem.W.Frag) (x : Str) : Bool := errB K "thing" (He.ga K x) (He.ma K (He.ga K x) "__init__")
def exB (K : PySem.W.Frag) : Bool := He.tupB K "WAYS" waysD && (eqtB K (He.ga K "Debate") (He.ma K (He.ga K "Debate") "__eq__") && (erB K "BadWeights" && (erB K "NoStatement" && erB K "BadName")))
theorem eqt_of {K : PySem.W.Frag} {C f : Addr} (h : eqtB K C f = true) : EqTxt K C f := by
  unfold eqtB at h
  obtain ⟨h1, h⟩ := He.ba h
  obtain ⟨h2, h⟩ := He.ba h
  obtain ⟨h3, h⟩ := He.ba h
  obtain ⟨h4, h⟩ := He.ba h
  obtain ⟨h5, h⟩ := He.ba h
  obtain ⟨h6, h⟩ := He.ba h
  obtain ⟨h7, h8⟩ := He.ba h
  exact ⟨He.eqO_ok h1, He.eqO_ok h2, of_decide_eq_true h3, of_decide_eq_true h4, He.eqO_ok h5, h6, He.eqO_ok h7, of_decide_eq_true h8⟩
theorem fun_of {K : PySem.W.Frag} {x q : Str} {st : Stmt} {f : Addr} {fd : FuncData} (F : FunD K x q (defArgs st) (defBody st) (defScope st) [] [] f fd) : Fun K x q st f fd := by
  obtain ⟨⟨oc, od, dV, kV, doc, pm, an, cdv, ct, osl, e, lk, hcd, hD, _⟩, kp⟩ := F
  rcases hD with ⟨_, rfl⟩ | ⟨z, _⟩
  · exact ⟨⟨oc, od, kV, doc, pm, an, cdv, ct, osl, e, lk, hcd⟩, kp⟩
  · exact absurd rfl z
section
variable {w : World} {K : PySem.W.Frag} {mg : Str → Option Value} {h : Heap}
theorem fun_at (c : He.SaysD fas fns K) {x q : Str} {st : Stmt} {a : He.Defn} (i : Nat) (hi : fns[i]? = some ⟨a, x, q, defArgs st, defBody st, defScope st, [], []⟩) : ∃ fd, Fun K x q st (He.fAd K a) fd := by
  obtain ⟨fd, F⟩ := c.def_ i hi
  exact ⟨fd, fun_of F⟩
theorem def_at (c : He.SaysD fas fns K) (X : K.In h) (G : h.Ns mainGlobals mg) {x : Str} {st : Stmt} (i j : Nat) (hi : fns[i]? = some (dfn x st)) (hj : fas[j]? = some (.glo x)) : Def K mg x st := by
  obtain ⟨fd, F⟩ := fun_at c i hi
  exact ⟨He.ga K x, fd, F, He.glo_ok X G (c.fact j hj)⟩
theorem defs_at (c : He.SaysD fas fns K) (X : K.In h) (G : h.Ns mainGlobals mg) : Defs K mg := ⟨
  def_at c X G 0 0 rfl rfl,
  def_at c X G 1 1 rfl rfl,
  def_at c X G 2 2 rfl rfl,
  def_at c X G 3 3 rfl rfl,
  def_at c X G 4 4 rfl rfl,
  def_at c X G 5 5 rfl rfl,
  def_at c X G 6 6 rfl rfl,
  def_at c X G 7 7 rfl rfl,
  def_at c X G 8 8 rfl rfl,
  def_at c X G 9 9 rfl rfl,
  def_at c X G 10 10 rfl rfl,
  def_at c X G 11 11 rfl rfl,
  def_at c X G 12 12 rfl rfl,
  def_at c X G 13 13 rfl rfl,
  def_at c X G 14 14 rfl rfl,
  def_at c X G 15 15 rfl rfl,
  def_at c X G 16 16 rfl rfl,
  def_at c X G 17 17 rfl rfl,
  def_at c X G 18 18 rfl rfl,
  def_at c X G 19 19 rfl rfl,
  def_at c X G 20 20 rfl rfl,
  def_at c X G 21 21 rfl rfl,
  def_at c X G 22 22 rfl rfl,
  def_at c X G 23 23 rfl rfl,
  def_at c X G 24 24 rfl rfl,
  def_at c X G 25 25 rfl rfl,
  def_at c X G 26 26 rfl rfl,
  def_at c X G 27 27 rfl rfl,
  def_at c X G 28 28 rfl rfl,
  def_at c X G 29 29 rfl rfl,
  def_at c X G 30 30 rfl rfl,
  def_at c X G 31 31 rfl rfl,
  def_at c X G 32 32 rfl rfl,
  def_at c X G 33 33 rfl rfl,
  def_at c X G 34 34 rfl rfl,
  def_at c X G 35 35 rfl rfl,
  def_at c X G 36 36 rfl rfl,
  def_at c X G 37 37 rfl rfl,
  def_at c X G 38 38 rfl rfl,
  def_at c X G 39 39 rfl rfl,
  def_at c X G 40 40 rfl rfl,
  def_at c X G 41 41 rfl rfl,
  def_at c X G 42 42 rfl rfl,
  def_at c X G 43 43 rfl rfl,
  def_at c X G 44 44 rfl rfl,
  def_at c X G 45 45 rfl rfl,
  def_at c X G 46 46 rfl rfl,
  def_at c X G 47 47 rfl rfl,
  def_at c X G 48 48 rfl rfl,
  def_at c X G 49 49 rfl rfl,
  def_at c X G 50 50 rfl rfl,
  def_at c X G 51 51 rfl rfl,
  def_at c X G 52 52 rfl rfl,
  def_at c X G 53 53 rfl rfl,
  def_at c X G 54 54 rfl rfl⟩
theorem txt_at (c : He.SaysD fas fns K) (X : K.In h) (G : h.Ns mainGlobals mg) (hw : He.tupB K "WAYS" waysD = true) : Nonempty (Txt K mg) := by
  obtain ⟨tS, gS⟩ := He.str_ok X G (c.fact 77 (f := .str "SMALL" smallS) rfl)
  obtain ⟨tF, gF⟩ := He.str_ok X G (c.fact 78 (f := .str "FIGURES" figS) rfl)
  refine ⟨⟨tS, tF, He.ga K "WAYS", gS, gF, He.glo_ok X G (c.fact 60 rfl), ?_, He.free_ok X G (c.fact 61 rfl), He.free_ok X G (c.fact 62 rfl), He.free_ok X G (c.fact 63 rfl), He.free_ok X G (c.fact 64 rfl), He.free_ok X G (c.fact 65 rfl), He.free_ok X G (c.fact 66 rfl), He.free_ok X G (c.fact 67 rfl), He.free_ok X G (c.fact 68 rfl), He.free_ok X G (c.fact 69 rfl), He.free_ok X G (c.fact 70 rfl), He.free_ok X G (c.fact 71 rfl), He.free_ok X G (c.fact 72 rfl), He.free_ok X G (c.fact 73 rfl), He.free_ok X G (c.fact 74 rfl), He.free_ok X G (c.fact 75 rfl), He.free_ok X G (c.fact 76 rfl)⟩⟩
  rcases He.tupB_ok hw (fun _ => none) with z | z
  · rcases z with z | ⟨_, z⟩
    · cases z
    · cases z
  · exact z
theorem law_at {fa : Addr} (X : K.In h) (G : h.Ns mainGlobals mg) (c : He.SaysX fas fns [] [("law", none)] exB w h K) (hfa : mg "law" = some (.ref fa)) : LawAtS PySem.Challenge.rw_objections_k73_whole_rises_and_falls w K CX0 13 63 "_law_script" mg fa h := by
  have d := c.t.d
  obtain ⟨x1, x⟩ := He.ba (show (He.tupB K "WAYS" waysD && (eqtB K (He.ga K "Debate") (He.ma K (He.ga K "Debate") "__eq__") && (erB K "BadWeights" && (erB K "NoStatement" && erB K "BadName")))) = true from c.more)
  obtain ⟨x2, x⟩ := He.ba x
  obtain ⟨x3, x⟩ := He.ba x
  obtain ⟨x4, x5⟩ := He.ba x
  obtain ⟨T⟩ := txt_at d X G x1
  have ga : ∀ (j : Nat) {x : Str}, fas[j]? = some (.glo x) → mg x = some (.ref (He.ga K x)) := fun j x hj => He.glo_ok X G (d.fact j hj)
  obtain ⟨fd, F⟩ := fun_at d (st := s_law) 55 rfl
  obtain ⟨fdI, FI⟩ := fun_at d (st := s_Debate_init) 56 rfl
  obtain ⟨fdS, FS⟩ := fun_at d (st := s_Debate_statements) 57 rfl
  obtain ⟨fdO, FO⟩ := fun_at d (st := s_Debate_objections) 58 rfl
  obtain ⟨fdE, FE⟩ := fun_at d (st := s_Debate_eq) 59 rfl
  obtain ⟨fdW, FW⟩ := fun_at d (st := s_BadWeights) 60 rfl
  obtain ⟨fdN, FN⟩ := fun_at d (st := s_NoStatement) 61 rfl
  obtain ⟨fdB, FB⟩ := fun_at d (st := s_BadName) 62 rfl
  have D : DTxt K mg (He.ga K "Debate") := ⟨He.cls_ok (d.fact 79 (f := .cls "Debate") rfl), He.noat_ok (d.fact 80 (f := .noat "Debate" fS) rfl), He.noat_ok (d.fact 81 (f := .noat "Debate" fO) rfl), He.noat_ok (d.fact 82 (f := .noat "Debate" fR) rfl), He.noat_ok (d.fact 83 (f := .noat "Debate" fD) rfl), ga 56 rfl⟩
  have mI := He.mkr_ok (d.fact 86 (f := .mkr "Debate") rfl)
  have mS := He.meth_ok (d.fact 84 (f := .meth "Debate" "statements") rfl)
  have mO := He.meth_ok (d.fact 85 (f := .meth "Debate" "objections") rfl)
  have EK : ErrsK K (He.ga K "BadWeights") (He.ga K "NoStatement") (He.ga K "BadName") := ⟨He.exm_ok (d.fact 87 (f := .exm "BadWeights" "BadWeights" true) rfl), He.exm_ok (d.fact 88 (f := .exm "NoStatement" "BadWeights" false) rfl), He.exm_ok (d.fact 89 (f := .exm "NoStatement" "NoStatement" true) rfl), He.exm_ok (d.fact 90 (f := .exm "BadName" "BadWeights" false) rfl), He.exm_ok (d.fact 91 (f := .exm "BadName" "NoStatement" false) rfl), He.exm_ok (d.fact 92 (f := .exm "BadName" "BadName" true) rfl)⟩
  have e := hfa.symm.trans (ga 55 rfl)
  cases e
  have mem : He.cT K ("law", none) ∈ [He.cT K ("law", none)] := List.mem_cons_self
  have hc : fd.code = .ref (He.cT K ("law", none)).1 := by
    obtain ⟨oc, od, kV, doc, pm, an, cdv, ct, osl, e1, lk, hcd⟩ := F.ex
    obtain ⟨c1, e2⟩ := He.codeIn_ref hcd
    have e3 : fd.code = .ref c1 := by rw [e1, ← e2] <;> rfl
    rw [e3, ← He.codeOf_eq lk e3] <;> rfl
  have bd : ∀ (s : Shared) (u : Value), BindsTo s fd ⟨[u], []⟩ [("_law_script", u)] := fun s u => by
    obtain ⟨oc, od, kV, doc, pm, an, cdv, ct, osl, rfl, _, _⟩ := F.ex
    exact .of_eq rfl
  refine ⟨fd, [He.cT K ("law", none)], sp_law K (He.cT K ("law", none)).2, fun p hp => ?_, fun p hp => ?_, fun p hp => ?_, fun s u => bd s u, fun H a ns hl _ hH hS => ⟨a, ns, rfl, hS, hH _ mem, fun _ => rfl⟩, fun base hb _ hT => ?_⟩
  · rw [List.mem_singleton.mp hp]
    exact c.empty _ List.mem_cons_self
  · rw [List.mem_singleton.mp hp]
    exact c.out _ List.mem_cons_self
  · rw [List.mem_singleton.mp hp]
    exact PySem.W.codeHd_of_K X (c.hd _ List.mem_cons_self)
  · have eW : HasErr PySem.Challenge.rw_objections_k73_whole_rises_and_falls.prog w K mg base "BadWeights" "thing" (He.ga K "BadWeights") := err_BadWeights x3 (ga 57 rfl) FW
    have eN : HasErr PySem.Challenge.rw_objections_k73_whole_rises_and_falls.prog w K mg base "NoStatement" "thing" (He.ga K "NoStatement") := err_NoStatement x4 (ga 58 rfl) FN
    have eB : HasErr PySem.Challenge.rw_objections_k73_whole_rises_and_falls.prog w K mg base "BadName" "thing" (He.ga K "BadName") := err_BadName x5 (ga 59 rfl) FB
    obtain ⟨fR, fF, L⟩ := law_hyp T D (defs_at d X G) mI FI mS FS mO FO (eqt_of x2) FE eW eN eB EK (hT _ mem)
    exact law_ok F hc T L
end
end K73
set_option maxRecDepth 100000
set_option maxHeartbeats 0
namespace K73
open Enc (At enc)
open PySem PySem.W PySem.Calls PyProof.Rows
abbrev R : OpenRow := OpenLaw.row PySem.Challenge.rw_objections_k73_whole_rises_and_falls
abbrev qv : Program := view R.prog [82]
def names0 : List PySem.Str := ["DebateError", "BadHow", "BadName", "BadObjections", "BadStatements", "BadWay", "BadWeights", "NoStatement", "SMALL", "FIGURES", "Made", "is_list", "is_integer", "is_name", "as_tuples", "checked_statements", "is_pair_of", "checked_objections", "Debate", "checked_statement", "WAYS", "checked_way", "hit_by", "answered_in", "least_lot", "unanswered_in", "held_lots", "calm_with", "calm_lots", "greatest_of"]
def names1 : List PySem.Str := ["is_within", "spared_in", "lots_in", "all_parts", "without_pairs", "checked_weights", "overheard_in", "cheapest_with", "cheapest_rise", "cheapest_fall", "with_answer", "all_prices", "prices_with", "least_budget", "stands", "_law_m_parts", "_law_m_one", "_law_m_held", "_law_m_weights", "_law_m_sum", "_law_m_odd_weights", "_law_m_are_weights", "_law_m_is_weight", "_law_m_left", "_law_start", "_law_draw", "_law_pick", "_law_mixed", "_law_same", "_law_each_once"]
def names2 : List PySem.Str := ["_law_loose", "_law_d_names", "_law_d_pairs", "_law_d_objectors", "_law_d_hits", "_law_d_answers", "_law_d_answered", "_law_met", "_law_least", "_law_first_list", "_law_name_right", "_law_answer_right"]
def names : List PySem.Str := names0 ++ (names1 ++ (names2
))
abbrev hk : PySem.W.Hook := He.hookX 4 fas fns [] [("law", none)] exB
def ob (s : PySem.W.SharedT) : He.AlX := He.obsX 4 fas fns [] [("law", none)] exB (HandSHeadRun.getT s)
theorem ob_eq (s : PySem.W.SharedT) : ob s = hk.obs s.abs := He.obsX_eq (HandSHeadRun.getT_eq s)
theorem run (w : World) : HandSHeadRun.RunEq R qv hk ob 40000 names w := by
  intro os
  kernel_rfl
end K73
open PySem PySem.W PySem.Calls PyProof.Rows
theorem PySem.Challenge.cw_objections_k73_whole_rises_and_falls_holds : PySem.Challenge.rw_objections_k73_whole_rises_and_falls.Holds := by
  w_on; o_law
  refine HandSHeadRun.head_any (r := K73.R) (q := K73.qv) (H := K73.hk) (ob := K73.ob) (M := 40000) (loose := K73.names) (d := HandSHeadRun.topDef K73.R.prog 82) (kwd := []) K73.ob_eq
    (by kernel_rfl) (fun s => by kernel_rfl) K73.run (by kernel_rfl) (by kernel_rfl) (by kernel_rfl) (by rfl) (by first | assumption | decide +kernel) (by decide +kernel) ⟨rfl, rfl, rfl, rfl, rfl, by decide +kernel⟩ ?hw ?hc
  case hw => w_witness2
  case hc =>
    refine LamX.walk_ofTsE (l := PySem.Challenge.rw_objections_k73_whole_rises_and_falls) (n := 63) (k := 13) (x := "_law_script") (CX := fun _ => L2.CX0) rfl (by decide) (by kernel_rfl) ⟨rfl, by decide, by decide⟩ ?F (fun _ _ _ _ _ z => z)
    intro w mg fa h Y G hmg0
    obtain ⟨K, KX, c⟩ := Y
    have hmg : mg ("law" : PySem.Str) = some (.ref fa) := by
      have e : (HandSHeadRun.topDef K73.R.prog 82).name = ("law" : PySem.Str) := by kernel_rfl
      rw [← e]
      exact hmg0
    exact ⟨K, KX, K73.law_at KX G c hmg⟩
