import PyProof.Rows.All
import HandS.ForMost
import HandS.Exc
import HandS.TryOnly
import HandS.ExcOwn
import HandS.WordsExc
import HandS.Walk
import HandS.Style
import HandS.TupMul
import HandS.TupAny
import HandS.TupLe
import HandS.Zip
import HandS.IsInst
import HandS.StrMore
import HandS.Deep
import HandS.Flow
import HandS.Conv
import HandS.Sort
import HandS.HotCalls
import HandS.ExcIs
import HandS.TryMany
import HandS.CallLocal
import KE.DataEq
import KE.DataFind
import KE.DataMinMax
import KE.LtData
import KE.SortData
import KE.DataCmp
import HandS.Replace
import PyProof.SeqIndex
import KE.GoesEnum
import HandS.Iter
import HandS.Defaults
import HandS.HeadHook2
import HandS.HeadEnd
import HandS.Head2
import HandS.ReplaceList
import PySem.Challenge.RW_bargaps_k26_whole_checks_and_slips
set_option Elab.async false
set_option linter.all false
set_option maxRecDepth 100000
set_option maxHeartbeats 4000000
/-! Plain data and how the heap bears it. G: the ghost heap of all that is never changed again; H: the tracked heap. -/
namespace Bg
open PySem PySem.Spec L2

abbrev D := PyData
/-- a def of the text, a built-in class, as data -/
abbrev fnD (x : Str) : D := .dict [(.str x, .none)]
/-- the law's script -/
abbrev scrD (ns : List Int) : D := .dict [(.list (ns.map .int), .none)]
def tyName : Int → String
  | 0 => "int"
  | 1 => "str"
  | 2 => "bool"
  | 3 => "tuple"
  | _ => "list"
abbrev tyD (k : Int) : D := .dict [(.none, .int k)]

mutual
inductive Rp (K : PySem.W.Frag) (mg : Str → Option Value) (G : Hp) : V → D → Prop
  | non : Rp K mg G .non .none
  | bl (b : Bool) : Rp K mg G (.bl b) (.bool b)
  | int (i : Int) : Rp K mg G (.int i) (.int i)
  | str (x : Str) : x.length ≤ 1000000 → Rp K mg G (.str x) (.str x)
  | lst {a : Addr} {xs : List V} {ds : List D} : G a = some (.lst xs) → ds.length ≤ 1000000 → RpA K mg G xs ds → Rp K mg G (.ref a) (.list ds)
  | tup {a : Addr} {xs : List V} {ds : List D} : SqT K G a xs → ds.length ≤ 1000000 → RpA K mg G xs ds → Rp K mg G (.ref a) (.tuple ds)
  | fn {a : Addr} {x : Str} : mg x = some (.ref a) → Rp K mg G (.ref a) (.dict [(.str x, .none)])
  | ty (k : Int) : Rp K mg G (.ty (tyName k)) (.dict [(.none, .int k)])
  | scr {a : Addr} {ns : List Int} : SqL K G a (ns.map V.int) → Rp K mg G (.ref a) (.dict [(.list (ns.map .int), .none)])
inductive RpA (K : PySem.W.Frag) (mg : Str → Option Value) (G : Hp) : List V → List D → Prop
  | nil : RpA K mg G [] []
  | cons {v : V} {vs : List V} {d : D} {ds : List D} : Rp K mg G v d → RpA K mg G vs ds → RpA K mg G (v :: vs) (d :: ds)
end

section
variable {K : PySem.W.Frag} {mg : Str → Option Value} {G G' H H' : Hp}
theorem sqL_mono {a : Addr} {xs : List V} (e : Same G G') (h : SqL K G a xs) : SqL K G' a xs := e.seq h
theorem sqT_mono {a : Addr} {xs : List V} (e : Same G G') (h : SqT K G a xs) : SqT K G' a xs := by
  rcases h with (h | ⟨o, h⟩) | h
  · exact .inl (.inl (e _ _ h))
  · exact .inl (.inr ⟨o, e _ _ h⟩)
  · exact .inr h
mutual
theorem Rp.mono (e : Same G G') : ∀ (d : D) (v : V), Rp K mg G v d → Rp K mg G' v d
  | .none, _, h => by cases h; exact .non
  | .bool _, _, h => by cases h; exact .bl _
  | .int _, _, h => by cases h; exact .int _
  | .str _, _, h => by cases h with | str _ hz => exact .str _ hz
  | .list ds, _, h => by cases h with | lst hs hz ha => exact .lst (e _ _ hs) hz (RpA.mono e ds _ ha)
  | .tuple ds, _, h => by cases h with | tup hs hz ha => exact .tup (sqT_mono e hs) hz (RpA.mono e ds _ ha)
  | .dict _, _, h => by
    cases h with
    | fn h => exact .fn h
    | ty n => exact .ty n
    | scr h => exact .scr (sqL_mono e h)
theorem RpA.mono (e : Same G G') : ∀ (ds : List D) (vs : List V), RpA K mg G vs ds → RpA K mg G' vs ds
  | [], _, h => by cases h; exact .nil
  | d :: ds, _, h => by cases h with | cons h1 h2 => exact .cons (Rp.mono e d _ h1) (RpA.mono e ds _ h2)
end
theorem RpA.length : ∀ {vs : List V} {ds : List D}, RpA K mg G vs ds → vs.length = ds.length
  | _, _, .nil => rfl
  | _, _, .cons _ h => by simp [RpA.length h]
theorem RpA.get : ∀ {vs : List V} {ds : List D} {i : Nat} {v : V}, RpA K mg G vs ds → vs[i]? = some v → ∃ d, ds[i]? = some d ∧ Rp K mg G v d
  | _, _, _, _, .nil, e => by simp at e
  | _, _, 0, _, .cons h _, e => by simp at e; subst e; exact ⟨_, rfl, h⟩
  | _, _, i + 1, v, .cons _ t, e => by
    obtain ⟨d, h1, h2⟩ := RpA.get (i := i) t (by simpa using e)
    exact ⟨d, by simpa using h1, h2⟩
theorem RpA.getD : ∀ {vs : List V} {ds : List D} {i : Nat} {d : D}, RpA K mg G vs ds → ds[i]? = some d → ∃ v, vs[i]? = some v ∧ Rp K mg G v d
  | _, _, _, _, .nil, e => by simp at e
  | _, _, 0, _, .cons h _, e => by simp at e; subst e; exact ⟨_, rfl, h⟩
  | _, _, i + 1, d, .cons _ t, e => by
    obtain ⟨v, h1, h2⟩ := RpA.getD (i := i) t (by simpa using e)
    exact ⟨v, by simpa using h1, h2⟩
theorem RpA.append : ∀ {vs ws : List V} {ds es : List D}, RpA K mg G vs ds → RpA K mg G ws es → RpA K mg G (vs ++ ws) (ds ++ es)
  | _, _, _, _, .nil, s => s
  | _, _, _, _, .cons r t, s => .cons r (RpA.append t s)
theorem RpA.one {v : V} {d : D} (h : Rp K mg G v d) : RpA K mg G [v] [d] := .cons h .nil
theorem RpA.take : ∀ {vs : List V} {ds : List D} (n : Nat), RpA K mg G vs ds → RpA K mg G (vs.take n) (ds.take n)
  | _, _, 0, _ => .nil
  | _, _, _ + 1, .nil => .nil
  | _, _, n + 1, .cons r t => .cons r (RpA.take n t)
theorem RpA.drop : ∀ {vs : List V} {ds : List D} (n : Nat), RpA K mg G vs ds → RpA K mg G (vs.drop n) (ds.drop n)
  | _, _, 0, r => r
  | _, _, _ + 1, .nil => .nil
  | _, _, n + 1, .cons _ t => RpA.drop n t
theorem RpA.set {v : V} {d : D} (r : Rp K mg G v d) : ∀ {vs : List V} {ds : List D} (i : Nat), RpA K mg G vs ds → RpA K mg G (vs.set i v) (ds.set i d)
  | _, _, _, .nil => .nil
  | _, _, 0, .cons _ t => .cons r t
  | _, _, i + 1, .cons q t => .cons q (RpA.set r i t)
theorem RpA.reverse {vs : List V} {ds : List D} (h : RpA K mg G vs ds) : RpA K mg G vs.reverse ds.reverse := by
  induction vs generalizing ds with
  | nil => cases h; exact .nil
  | cons v vs ih =>
    cases h with
    | cons r t =>
      rw [List.reverse_cons, List.reverse_cons]
      exact (ih t).append (.one r)
theorem RpA.flat {vs : List V} {ds : List D} (h : RpA K mg G vs ds) : ∀ n : Nat, RpA K mg G (List.replicate n vs).flatten (List.replicate n ds).flatten
  | 0 => .nil
  | n + 1 => by rw [List.replicate_succ, List.replicate_succ, List.flatten_cons, List.flatten_cons]; exact h.append (RpA.flat h n)
/-- of data by a map -/
theorem RpA.ints : ∀ {vs : List V} {ns : List Int}, RpA K mg G vs (ns.map .int) → vs = ns.map V.int
  | [], [], _ => rfl
  | _, _ :: _, .cons h t => by cases h; rw [RpA.ints t]; rfl
theorem RpA.ofInts : ∀ (ns : List Int), RpA K mg G (ns.map V.int) (ns.map .int)
  | [] => .nil
  | n :: ns => .cons (.int n) (RpA.ofInts ns)
theorem RpA.strs : ∀ {vs : List V} {ns : List Str}, RpA K mg G vs (ns.map .str) → vs = ns.map V.str
  | [], [], _ => rfl
  | _, _ :: _, .cons h t => by cases h; rw [RpA.strs t]; rfl
theorem RpA.bools : ∀ {vs : List V} {ns : List Bool}, RpA K mg G vs (ns.map .bool) → vs = ns.map V.bl
  | [], [], _ => rfl
  | _, _ :: _, .cons h t => by cases h; rw [RpA.bools t]; rfl
mutual
/-- plain data, for the library's deep == -/
theorem Rp.dp : ∀ (d : D) (v : V), d.plain = true → Rp K mg G v d → Dp K G v d
  | .none, _, _, h => by cases h; exact .non
  | .bool _, _, _, h => by cases h; exact .bl _
  | .int _, _, _, h => by cases h; exact .int _
  | .str _, _, _, h => by cases h; exact .str _
  | .list ds, _, c, h => by cases h with | lst hs hz ha => exact .lst (SqL.of hs) (RpA.dp ds _ (by simpa [PyData.plain] using c) ha)
  | .tuple ds, _, c, h => by cases h with | tup hs hz ha => exact .tup hs (RpA.dp ds _ (by simpa [PyData.plain] using c) ha)
  | .dict _, _, c, _ => by simp [PyData.plain] at c
theorem RpA.dp : ∀ (ds : List D) (vs : List V), PyData.plainAll ds = true → RpA K mg G vs ds → DpAll K G vs ds
  | [], _, _, h => by cases h; exact .nil
  | d :: ds, _, c, h => by
    have c' : d.plain = true ∧ PyData.plainAll ds = true := by simpa [PyData.plainAll] using c
    cases h with | cons h1 h2 => exact .cons (Rp.dp d _ c'.1 h1) (RpA.dp ds _ c'.2 h2)
end
mutual
theorem dp_mono (e : Same G G') : ∀ (d : D) (v : V), Dp K G v d → Dp K G' v d
  | .none, _, h => by cases h; exact .non
  | .bool _, _, h => by cases h; exact .bl _
  | .int _, _, h => by cases h; exact .int _
  | .str _, _, h => by cases h; exact .str _
  | .list ds, _, h => by cases h with | lst hs ha => exact .lst (sqL_mono e hs) (dpA_mono e ds _ ha)
  | .tuple ds, _, h => by cases h with | tup hs ha => exact .tup (sqT_mono e hs) (dpA_mono e ds _ ha)
  | .dict _, _, h => by cases h
theorem dpA_mono (e : Same G G') : ∀ (ds : List D) (vs : List V), DpAll K G vs ds → DpAll K G' vs ds
  | [], _, h => by cases h; exact .nil
  | d :: ds, _, h => by cases h with | cons h1 h2 => exact .cons (dp_mono e d _ h1) (dpA_mono e ds _ h2)
end

/-- the heaps go on: all that is tracked stands, the ghost grows by new things alone -/
structure Gr (H G H' G' : Hp) : Prop where
  h : Same H H'
  g : Same G G'
  f : ∀ a, G a = none → H a ≠ none → G' a = none
  s : Same G' H'
theorem Gr.refl (s : Same G H) : Gr H G H G := ⟨Same.refl _, Same.refl _, fun _ h _ => h, s⟩
theorem Gr.trans {H1 G1 H2 G2 : Hp} (a : Gr H G H1 G1) (b : Gr H1 G1 H2 G2) : Gr H G H2 G2 :=
  ⟨a.h.trans b.h, a.g.trans b.g, fun x h1 h2 => b.f x (a.f x h1 h2) (fun z => h2 (a.h.free z)), b.s⟩
theorem none_of (s : Same G H) {p : Addr} (h : H p = none) : G p = none := s.free h
theorem same_new {p : Addr} {o : HO} (h : H p = none) : Same H (upd H p o) := fun a u e => by rw [upd_ne (ne_of_none e h)]; exact e
/-- a new thing that is never changed -/
theorem Gr.new (s : Same G H) {p : Addr} (o : HO) (h : H p = none) : Gr H G (upd H p o) (upd G p o) :=
  ⟨same_new h, same_new (none_of s h), fun a h1 h2 => by rw [upd_ne (fun e : a = p => h2 (by rw [e]; exact h))]; exact h1, fun a u e => by
    by_cases q : a = p
    · subst q; rw [upd_same] at e ⊢; exact e
    · rw [upd_ne q] at e ⊢; exact s a u e⟩
/-- a new thing that is one's own -/
theorem Gr.own (s : Same G H) {p : Addr} (o : HO) (h : H p = none) : Gr H G (upd H p o) G :=
  ⟨same_new h, Same.refl _, fun _ h _ => h, s.trans (same_new h)⟩

/-- a value that may be one's own list, its items shared -/
def Rs (K : PySem.W.Frag) (mg : Str → Option Value) (G H : Hp) (v : V) (d : D) : Prop :=
  Rp K mg G v d ∨ ∃ a xs ds, v = .ref a ∧ d = .list ds ∧ H a = some (.lst xs) ∧ ds.length ≤ 1000000 ∧ RpA K mg G xs ds
def Rx (st : Bool) (K : PySem.W.Frag) (mg : Str → Option Value) (G H : Hp) (v : V) (d : D) : Prop := if st = true then Rp K mg G v d else Rs K mg G H v d
theorem Rx.rs {st : Bool} {v : V} {d : D} (h : Rx st K mg G H v d) : Rs K mg G H v d := by
  cases st with
  | true => exact .inl h
  | false => exact h
theorem Rs.gr {H1 G1 : Hp} {v : V} {d : D} (e : Gr H G H1 G1) (h : Rs K mg G H v d) : Rs K mg G1 H1 v d := by
  rcases h with h | ⟨a, xs, ds, e1, e2, h1, hz, h2⟩
  · exact .inl (Rp.mono e.g d v h)
  · exact .inr ⟨a, xs, ds, e1, e2, e.h _ _ h1, hz, RpA.mono e.g _ _ h2⟩
theorem Rs.lst (s : Same G H) {v : V} {ds : List D} (h : Rs K mg G H v (.list ds)) : ∃ a xs, v = .ref a ∧ H a = some (.lst xs) ∧ RpA K mg G xs ds := by
  rcases h with h | ⟨a, xs, ds', e1, e2, h1, hz, h2⟩
  · cases h with | lst hs hz ha => exact ⟨_, _, rfl, s _ _ hs, ha⟩
  · cases e2; exact ⟨a, xs, e1, h1, h2⟩
theorem Rs.lenL {v : V} {ds : List D} (h : Rs K mg G H v (.list ds)) : ds.length ≤ 1000000 := by
  rcases h with h | ⟨a, xs, ds', e1, e2, h1, hz, h2⟩
  · cases h with | lst hs hz ha => exact hz
  · cases e2; exact hz
theorem Rs.lenT {v : V} {ds : List D} (h : Rs K mg G H v (.tuple ds)) : ds.length ≤ 1000000 := by
  rcases h with h | ⟨a, xs, ds', e1, e2, h1, hz, h2⟩
  · cases h with | tup hs hz ha => exact hz
  · cases e2
theorem Rs.lenS {v : V} {x : Str} (h : Rs K mg G H v (.str x)) : x.length ≤ 1000000 := by
  rcases h with h | ⟨a, xs, ds', e1, e2, h1, hz, h2⟩
  · cases h with | str _ hz => exact hz
  · cases e2
theorem Rs.tup (s : Same G H) {v : V} {ds : List D} (h : Rs K mg G H v (.tuple ds)) : ∃ a xs, v = .ref a ∧ SqT K H a xs ∧ RpA K mg G xs ds := by
  rcases h with h | ⟨a, xs, ds', e1, e2, h1, hz, h2⟩
  · cases h with | tup hs hz ha => exact ⟨_, _, rfl, sqT_mono s hs, ha⟩
  · cases e2
theorem Rs.int {v : V} {i : Int} (h : Rs K mg G H v (.int i)) : v = .int i := by
  rcases h with h | ⟨a, xs, ds', e1, e2, h1, hz, h2⟩
  · cases h; rfl
  · cases e2
theorem Rs.str {v : V} {i : Str} (h : Rs K mg G H v (.str i)) : v = .str i := by
  rcases h with h | ⟨a, xs, ds', e1, e2, h1, hz, h2⟩
  · cases h; rfl
  · cases e2
theorem Rs.bool {v : V} {i : Bool} (h : Rs K mg G H v (.bool i)) : v = .bl i := by
  rcases h with h | ⟨a, xs, ds', e1, e2, h1, hz, h2⟩
  · cases h; rfl
  · cases e2
theorem Rs.none {v : V} (h : Rs K mg G H v .none) : v = .non := by
  rcases h with h | ⟨a, xs, ds', e1, e2, h1, hz, h2⟩
  · cases h; rfl
  · cases e2
theorem Rs.rp {v : V} {d : D} (hd : ∀ ds, d ≠ .list ds) (h : Rs K mg G H v d) : Rp K mg G v d := by
  rcases h with h | ⟨a, xs, ds', e1, e2, h1, hz, h2⟩
  · exact h
  · exact absurd e2 (hd _)
theorem Rs.dp (s : Same G H) {v : V} {d : D} (c : d.plain = true) (h : Rs K mg G H v d) : Dp K H v d := by
  rcases h with h | ⟨a, xs, ds, e1, e2, h1, hz, h2⟩
  · exact dp_mono s _ _ (Rp.dp d v c h)
  · subst e1 e2
    exact .lst (SqL.of h1) (dpA_mono s _ _ (RpA.dp ds xs (by simpa [PyData.plain] using c) h2))
inductive RsA (K : PySem.W.Frag) (mg : Str → Option Value) (G H : Hp) : List V → List D → Prop
  | nil : RsA K mg G H [] []
  | cons {v : V} {vs : List V} {d : D} {ds : List D} : Rs K mg G H v d → RsA K mg G H vs ds → RsA K mg G H (v :: vs) (d :: ds)
theorem RsA.gr {H1 G1 : Hp} (e : Gr H G H1 G1) : ∀ {vs : List V} {ds : List D}, RsA K mg G H vs ds → RsA K mg G1 H1 vs ds
  | _, _, .nil => .nil
  | _, _, .cons h t => .cons (h.gr e) (RsA.gr e t)

theorem le_sl {n : Nat} (h : n ≤ 1000000) : n ≤ sizeLine := by rw [sizeLine_eq]; omega
/-- what is wanted behind an evaluation to d -/
def Fin (K : PySem.W.Frag) (mg : Str → Option Value) (H G : Hp) (Q : VK) (d : D) : Prop := ∀ v H' G', Gr H G H' G' → Rp K mg G' v d → Q v H'
theorem Fin.here {Q : VK} {d : D} {v : V} (s : Same G H) (f : Fin K mg H G Q d) (h : Rp K mg G v d) : Q v H := f v H G (Gr.refl s) h
theorem Fin.newL {Q : VK} {ds : List D} {xs : List V} (s : Same G H) (f : Fin K mg H G Q (.list ds)) (h : RpA K mg G xs ds) (hz : ds.length ≤ 1000000) {p : Addr} (hp : H p = none) : Q (.ref p) (upd H p (.lst xs)) :=
  f _ _ _ (Gr.new s _ hp) (.lst upd_same hz (RpA.mono (same_new (none_of s hp)) _ _ h))
theorem Fin.newT {Q : VK} {ds : List D} {xs : List V} (s : Same G H) (f : Fin K mg H G Q (.tuple ds)) (h : RpA K mg G xs ds) (hz : ds.length ≤ 1000000) {p : Addr} (hp : H p = none) : Q (.ref p) (upd H p (.tup xs)) :=
  f _ _ _ (Gr.new s _ hp) (.tup (SqT.of upd_same) hz (RpA.mono (same_new (none_of s hp)) _ _ h))
end

/-- an operator on data, as a rule on values -/
def rB (K : PySem.W.Frag) (mg : Str → Option Value) (f : D → D → Option D) : R2 := fun x y H Q => ∃ G a b d, Same G H ∧ Rs K mg G H x a ∧ Rs K mg G H y b ∧ f a b = some d ∧ Fin K mg H G Q d
/-- a call on data, as a rule on values -/
def rC (K : PySem.W.Frag) (mg : Str → Option Value) (f : List D → Option D) : List V → Hp → VK → Prop := fun vs H Q => ∃ G ds d, Same G H ∧ RsA K mg G H vs ds ∧ f ds = some d ∧ Fin K mg H G Q d
/-- a method on data -/
def rM (K : PySem.W.Frag) (mg : Str → Option Value) (f : D → List D → Option D) : V → List V → Hp → VK → Prop := fun x vs H Q => ∃ G a ds d, Same G H ∧ Rs K mg G H x a ∧ RsA K mg G H vs ds ∧ f a ds = some d ∧ Fin K mg H G Q d
theorem OpR.imp {X : Cx} {f : Value → Value → Sem Value} {r r' : R2} (h : OpR X f r) (i : ∀ x y H Q, r' x y H Q → r x y H Q) : OpR X f r' :=
  fun pins s σ H x y v u Q I rx ry q => h pins s σ H x y v u Q I rx ry (i _ _ _ _ q)
theorem CallR.imp {X : Cx} {f : Value} {r r' : List V → Hp → VK → Prop} (h : CallR X f r) (i : ∀ xs H Q, r' xs H Q → r xs H Q) : CallR X f r' :=
  fun pins s σ H xs us Q I rx q => h pins s σ H xs us Q I rx (i _ _ _ q)
end Bg

set_option Elab.async false
set_option linter.all false
set_option maxRecDepth 100000
set_option maxHeartbeats 4000000
/-! Operators, calls and methods on plain data, each with its rule over the hand layer. -/
namespace Bg
open PySem PySem.Spec L2 PySem.SeqAt

section
variable {X : Cx} {pins : List (Addr × Obj)} {σ : L2.St} {G H : Hp} {s : Shared}
theorem Rs.reads {K : PySem.W.Frag} {mg : Str → Option Value} {v : V} {u : Value} {d : D} (hK : K = X.K) (I : Inv X pins σ H s) (s0 : Same G H) (h : Rs K mg G H v d) (pl : d.plain = true) (r : RelV v u) : ∃ as, Reads s.heap u d as := by
  subst hK
  exact Dp.reads I d v u (h.dp s0 pl) r
end

/-! ### truth -/
def truth : D → Option Bool
  | .none => some false
  | .bool b => some b
  | .int i => some (i != 0)
  | .str y => some ((y.length : Int) != 0)
  | .list xs => some (!xs.isEmpty)
  | .tuple xs => some (!xs.isEmpty)
  | .dict _ => none
theorem RpA.isEmpty {K : PySem.W.Frag} {mg : Str → Option Value} {G : Hp} {vs : List V} {ds : List D} (h : RpA K mg G vs ds) : vs.isEmpty = ds.isEmpty := by cases h <;> rfl
theorem truth_ok {K : PySem.W.Frag} {mg : Str → Option Value} {G H : Hp} {v : V} {d : D} {b : Bool} (s : Same G H) (h : Rs K mg G H v d) (t : truth d = some b) : TruV K v H b := by
  cases d with
  | none => rw [h.none]; simp only [truth, Option.some.injEq] at t; exact t.symm
  | bool c => rw [h.bool]; simp only [truth, Option.some.injEq] at t; exact t.symm
  | int i => rw [h.int]; simp only [truth, Option.some.injEq] at t; exact t.symm
  | str y =>
    have hz := h.lenS
    rw [h.str]
    simp only [truth] at t
    exact ⟨le_sl hz, (Option.some.inj t).symm⟩
  | list xs =>
    obtain ⟨a, vs, rfl, ha, hr⟩ := h.lst s
    simp only [truth, Option.some.injEq] at t
    exact .inl ⟨vs, SqL.of ha, by rw [hr.isEmpty]; exact t.symm⟩
  | tuple xs =>
    obtain ⟨a, vs, rfl, ha, hr⟩ := h.tup s
    simp only [truth, Option.some.injEq] at t
    exact .inr (.inl ⟨vs, ha, by rw [hr.isEmpty]; exact t.symm⟩)
  | dict _ => cases t

/-! ### operators -/
def gd (c : Prop) [Decidable c] (d : D) : Option D := if c then some d else none
theorem gd_some {c : Prop} [Decidable c] {d e : D} (h : gd c d = some e) : c ∧ d = e := by
  unfold gd at h
  split at h
  · rename_i q; exact ⟨q, Option.some.inj h⟩
  · cases h
def bAdd : D → D → Option D
  | .int i, .int j => some (.int (i + j))
  | .str x, .str y => gd (x.length + y.length ≤ 1000000) (.str (x ++ y))
  | .tuple a, .tuple b => gd (a.length + b.length ≤ 1000000) (.tuple (a ++ b))
  | .list a, .list b => gd (a.length + b.length ≤ 1000000) (.list (a ++ b))
  | _, _ => none
def bSub : D → D → Option D
  | .int i, .int j => some (.int (i - j))
  | _, _ => none
/-- a text so many times -/
def mulS (x : Str) (k : Nat) : Str := ⟨((List.replicate k x.cps.toList).flatten).toArray⟩
instance (i j : Int) : Decidable (CMul i j) := by unfold CMul; exact inferInstance
instance (i j : Int) : Decidable (CDiv i j) := by unfold CDiv; exact inferInstance
instance (i j : Int) : Decidable (CPow i j) := by unfold CPow; exact inferInstance
def bMul : D → D → Option D
  | .int i, .int j => gd (CMul i j) (.int (i * j))
  | .str x, .int k => gd (0 ≤ k ∧ k ≤ 100000 ∧ x.length * k.toNat ≤ 100000) (.str (mulS x k.toNat))
  | .list a, .int k => gd (0 ≤ k ∧ k ≤ 100000 ∧ a.length * k.toNat ≤ 100000) (.list (List.replicate k.toNat a).flatten)
  | .tuple a, .int k => gd (a.isEmpty = false ∧ 2 ≤ k ∧ k ≤ 1000 ∧ a.length ≤ 1000) (.tuple (List.replicate k.toNat a).flatten)
  | _, _ => none
def bMod : D → D → Option D
  | .int i, .int j => gd (0 < j) (.int (i % j))
  | _, _ => none
def bFdiv : D → D → Option D
  | .int i, .int j => gd (CDiv i j) (.int (i / j))
  | _, _ => none
def bPow : D → D → Option D
  | .int i, .int j => gd (CPow i j) (.int (i ^ j.toNat))
  | _, _ => none

theorem len_app (x y : Str) : (x ++ y).length = x.length + y.length := by rw [TL.len_tl, TL.len_tl, TL.len_tl, TL.tl_append, List.length_append]
theorem len_flat {α : Type} (l : List α) : ∀ k : Nat, (List.replicate k l).flatten.length = k * l.length
  | 0 => by simp
  | k + 1 => by rw [List.replicate_succ, List.flatten_cons, List.length_append, len_flat l k, Nat.succ_mul, Nat.add_comm]
theorem mulS_len (x : Str) (k : Nat) : (mulS x k).length = x.length * k := by
  show ((List.replicate k x.cps.toList).flatten.toArray).size = x.cps.size * k
  rw [List.size_toArray, len_flat, Array.length_toList, Nat.mul_comm]
theorem mulS_eq (x : Str) (k : Int) : Txt.mul x k = mulS x k.toNat := by
  have f0 : ∀ (m : Nat) (acc : Array Nat), ((List.replicate m x.cps).foldl (· ++ ·) acc).toList = acc.toList ++ (List.replicate m x.cps.toList).flatten := by
    intro m
    induction m with
    | zero => intro acc; simp
    | succ m ih => intro acc; rw [List.replicate_succ, List.foldl_cons, ih, List.replicate_succ, List.flatten_cons, Array.toList_append, List.append_assoc]
  apply TL.ext_tl
  unfold Txt.mul mulS
  split
  · rename_i h
    have e : k.toNat = 0 := by omega
    rw [e]
    simp [TL.tl, Str.empty]
  · split
    · rename_i h1 h2
      rcases Bool.or_eq_true_iff.mp h2 with q | q
      · have e : k.toNat = 1 := by have := eq_of_beq q; omega
        rw [e]
        simp [TL.tl]
      · have e : x.cps.toList = [] := by
          have := eq_of_beq q
          have z : x.cps.toList.length = 0 := by rw [Array.length_toList]; exact this
          exact List.eq_nil_of_length_eq_zero z
        simp [TL.tl, e]
    · show ((List.replicate k.toNat x.cps).foldl (· ++ ·) #[]).toList = _
      rw [f0]
      simp [TL.tl]

section
variable {X : Cx}
theorem op_bAdd : OpR X (binaryOp .Add) (rB X.K X.mg bAdd) := by
  intro pins s σ H x y v u Q I rx ry h
  obtain ⟨G, a, b, d, s0, hx, hy, e, f⟩ := h
  cases a <;> cases b <;> simp only [bAdd, reduceCtorEq, Option.some.injEq] at e
  · subst e
    exact op_add pins s σ H x y v u Q I rx ry ⟨_, _, hx.int, hy.int, f.here s0 (.int _)⟩
  · obtain ⟨c, rfl⟩ := gd_some e
    exact op_add_str pins s σ H x y v u Q I rx ry ⟨_, _, hx.str, hy.str, le_sl c, f.here s0 (.str _ (by rw [len_app]; exact c))⟩
  · obtain ⟨c, rfl⟩ := gd_some e
    obtain ⟨p, xs, rfl, hp, ha⟩ := hx.lst s0
    obtain ⟨q, ys, rfl, hq, hb⟩ := hy.lst s0
    exact op_cat pins s σ H _ _ v u Q I rx ry ⟨p, q, xs, ys, rfl, rfl, hp, hq, by rw [ha.length, hb.length]; exact le_sl c, fun z hz => f.newL s0 (ha.append hb) (by rw [List.length_append]; exact c) hz⟩
  · obtain ⟨c, rfl⟩ := gd_some e
    have tx := hx.rp (fun _ z => by cases z)
    have ty := hy.rp (fun _ z => by cases z)
    obtain ⟨p, xs, rfl, hp, ha⟩ := hx.tup s0
    obtain ⟨q, ys, rfl, hq, hb⟩ := hy.tup s0
    refine L2.op_catA pins s σ H _ _ v u Q I rx ry ⟨p, q, xs, ys, rfl, rfl, hp, hq, by rw [ha.length, hb.length]; exact le_sl c, fun z => ?_, fun _ z => ?_, fun _ _ z hz => f.newT s0 (ha.append hb) (by rw [List.length_append]; exact c) hz⟩
    · subst z; cases ha; exact f.here s0 ty
    · subst z; cases hb; rw [List.append_nil] at f; exact f.here s0 tx
theorem op_bSub : OpR X (binaryOp .Sub) (rB X.K X.mg bSub) := by
  intro pins s σ H x y v u Q I rx ry h
  obtain ⟨G, a, b, d, s0, hx, hy, e, f⟩ := h
  cases a <;> cases b <;> simp only [bSub, reduceCtorEq, Option.some.injEq] at e
  subst e
  exact op_sub pins s σ H x y v u Q I rx ry ⟨_, _, hx.int, hy.int, f.here s0 (.int _)⟩
theorem op_mulS (pins : List (Addr × Obj)) (s : Shared) (σ : L2.St) (H : Hp) (x : Str) (k : Int) (v u : Value) (Q : VK) (I : Inv X pins σ H s) (rx : RelV (.str x) v) (ry : RelV (.int k) u)
    (h0 : 0 ≤ k) (h1 : k ≤ 100000) (h2 : x.length * k.toNat ≤ 100000) (q : Q (.str (mulS x k.toNat)) H) : wpAny (model X.prog X.w) X.A (binaryOp .Mult v u) (EP X pins σ Q) X.xe s := by
  obtain ⟨t, rfl⟩ := rx
  obtain ⟨t', rfl⟩ := ry
  have hok : MulOk x k := by
    refine ⟨?_, fun _ _ => ?_, fun _ _ => ?_⟩
    · simp only [Bool.or_eq_false_iff, decide_eq_false_iff_not]
      omega
    · intro z
      have hk : 1 ≤ k := by omega
      have : (2 ^ 63 - 1) / k * k ≤ 2 ^ 63 - 1 := Int.ediv_mul_le _ (by omega)
      have h3 : (x.length : Int) * k ≤ 100000 := by
        have : ((x.length * k.toNat : Nat) : Int) ≤ ((100000 : Nat) : Int) := Int.ofNat_le.mpr h2
        rw [Int.natCast_mul, Int.toNat_of_nonneg h0] at this
        exact this
      have h4 : ((2 ^ 63 - 1) / k + 1) * k ≤ (x.length : Int) * k := Int.mul_le_mul_of_nonneg_right (by omega) h0
      have h5 : (2 ^ 63 - 1 : Int) < ((2 ^ 63 - 1) / k + 1) * k := by
        have := Int.lt_ediv_add_one_mul_self (2 ^ 63 - 1 : Int) (show 0 < k by omega)
        exact this
      omega
    · unfold PySem.Builtin.Str.tooLong
      have : sizeLine = 16777216 := sizeLine_eq
      simp only [decide_eq_false_iff_not, gt_iff_lt, Nat.not_lt]
      omega
  refine PySem.SB.mul hok fun t' k' => ?_
  rw [mulS_eq]
  exact ⟨.str _, H, I.tok _, ⟨_, rfl⟩, q⟩
theorem op_bMul : OpR X (binaryOp .Mult) (rB X.K X.mg bMul) := by
  intro pins s σ H x y v u Q I rx ry h
  obtain ⟨G, a, b, d, s0, hx, hy, e, f⟩ := h
  cases a <;> cases b <;> simp only [bMul, reduceCtorEq] at e
  · obtain ⟨c, rfl⟩ := gd_some e
    exact op_mul pins s σ H x y v u Q I rx ry ⟨_, _, hx.int, hy.int, c, f.here s0 (.int _)⟩
  · obtain ⟨⟨c1, c2, c3⟩, rfl⟩ := gd_some e
    rw [hx.str] at rx
    rw [hy.int] at ry
    exact op_mulS pins s σ H _ _ v u Q I rx ry c1 c2 c3 (f.here s0 (.str _ (by rw [mulS_len]; omega)))
  · obtain ⟨⟨c1, c2, c3⟩, rfl⟩ := gd_some e
    obtain ⟨p, xs, rfl, hp, ha⟩ := hx.lst s0
    have := sizeLine_eq
    exact op_rep pins s σ H _ _ v u Q I rx ry ⟨p, _, xs, rfl, hy.int, hp, by omega, by omega, by rw [ha.length]; omega, fun z hz => f.newL s0 (ha.flat _) (by rw [len_flat, Nat.mul_comm]; omega) hz⟩
  · obtain ⟨⟨c1, c2, c3, c4⟩, rfl⟩ := gd_some e
    obtain ⟨p, xs, rfl, hp, ha⟩ := hx.tup s0
    exact op_repT pins s σ H _ _ v u Q I rx ry ⟨p, _, xs, rfl, hy.int, hp, (fun z => by subst z; cases ha; cases c1), c2, c3, by rw [ha.length]; exact c4, fun z hz => f.newT s0 (ha.flat _) (by rw [len_flat]; exact Nat.le_trans (Nat.mul_le_mul (show _ ≤ 1000 by omega) c4) (by decide)) hz⟩
theorem op_bMod : OpR X (binaryOp .Mod) (rB X.K X.mg bMod) := by
  intro pins s σ H x y v u Q I rx ry h
  obtain ⟨G, a, b, d, s0, hx, hy, e, f⟩ := h
  cases a <;> cases b <;> simp only [bMod, reduceCtorEq] at e
  obtain ⟨c, rfl⟩ := gd_some e
  exact op_mod pins s σ H x y v u Q I rx ry ⟨_, _, hx.int, hy.int, c, f.here s0 (.int _)⟩
theorem op_bFdiv : OpR X (binaryOp .FloorDiv) (rB X.K X.mg bFdiv) := by
  intro pins s σ H x y v u Q I rx ry h
  obtain ⟨G, a, b, d, s0, hx, hy, e, f⟩ := h
  cases a <;> cases b <;> simp only [bFdiv, reduceCtorEq] at e
  obtain ⟨c, rfl⟩ := gd_some e
  exact op_fdiv pins s σ H x y v u Q I rx ry ⟨_, _, hx.int, hy.int, c, f.here s0 (.int _)⟩
theorem op_bPow : OpR X (binaryOp .Pow) (rB X.K X.mg bPow) := by
  intro pins s σ H x y v u Q I rx ry h
  obtain ⟨G, a, b, d, s0, hx, hy, e, f⟩ := h
  cases a <;> cases b <;> simp only [bPow, reduceCtorEq] at e
  obtain ⟨c, rfl⟩ := gd_some e
  exact op_pow pins s σ H x y v u Q I rx ry ⟨_, _, hx.int, hy.int, c, f.here s0 (.int _)⟩
end

/-! ### comparisons -/
def near2 (a b : D) : Prop := a.plain = true ∧ b.plain = true ∧ min a.depth b.depth ≤ 60
instance (a b : D) : Decidable (near2 a b) := by unfold near2; exact inferInstance
def cEq (a b : D) : Option D := gd (near2 a b) (.bool (PyData.eqv a b))
def cNe (a b : D) : Option D := gd (near2 a b) (.bool (!PyData.eqv a b))
def nonD : D → Bool
  | .none => true
  | _ => false
def cLt (a b : D) : Option D := match a, b with
  | .int i, .int j => some (.bool (decide (i < j)))
  | a, b => gd (near2 a b ∧ PySem.W.alike a b = true ∧ nonD a = false) (.bool (PySem.W.dataLt a b))
def cLe : D → D → Option D
  | .int i, .int j => some (.bool (decide (i ≤ j)))
  | _, _ => none
def cGt (a b : D) : Option D := match a, b with
  | .int i, .int j => some (.bool (decide (j < i)))
  | a, b => gd (near2 a b ∧ PySem.W.alike a b = true ∧ nonD a = false) (.bool (PySem.W.dataLt b a))
def cGe (a b : D) : Option D := match a, b with
  | .int i, .int j => some (.bool (decide (j ≤ i)))
  | a, b => gd (near2 a b ∧ PySem.W.alike a b = true ∧ nonD a = false) (.bool (!PySem.W.dataLt a b))
def inS (x y : Str) : Bool := match x.cps.toList with
  | [c] => decide (c ∈ y.cps.toList)
  | _ => !(Builtin.Str.occurrences y x 0 y.length 1).isEmpty
def cIn (a b : D) : Option D := match a, b with
  | .str x, .str y => some (.bool (inS x y))
  | a, .list ds => gd (a.plain = true ∧ PyData.plainAll ds = true ∧ min (PyData.depthAll ds) a.depth ≤ 60) (.bool (ds.any fun y => PyData.eqv y a))
  | a, .tuple ds => gd (a.plain = true ∧ PyData.plainAll ds = true ∧ min (PyData.depthAll ds) a.depth ≤ 60) (.bool (ds.any fun y => PyData.eqv y a))
  | _, _ => none
def notD : Option D → Option D
  | some (.bool b) => some (.bool (!b))
  | _ => none
def cNotIn (a b : D) : Option D := notD (cIn a b)
/-- x is None; x is True, False (both truths) -/
def cIs : D → D → Option D
  | .bool a, .bool b => some (.bool (decide (a = b)))
  | .dict _, _ => none
  | .list _, .none => some (.bool false)
  | a, .none => some (.bool (match a with | .none => true | _ => false))
  | _, _ => none
def cIsNot (a b : D) : Option D := notD (cIs a b)

section
variable {X : Cx}
theorem fin_bool {pins : List (Addr × Obj)} {σ : L2.St} {G H : Hp} {s : Shared} {Q : VK} {b : Bool} (I : Inv X pins σ H s) (s0 : Same G H) (f : Fin X.K X.mg H G Q (.bool b)) : EP X pins σ Q (.bool b) s :=
  ⟨.bl b, H, I, rfl, f.here s0 (.bl b)⟩
theorem op_cEq (hu : X.A.units + 100 < cLine) : OpR X (compareOp .Eq) (rB X.K X.mg cEq) := by
  intro pins s σ H x y v u Q I rx ry h
  obtain ⟨G, a, b, d, s0, hx, hy, e, f⟩ := h
  obtain ⟨⟨p1, p2, p3⟩, rfl⟩ := gd_some e
  obtain ⟨as, r1⟩ := hx.reads rfl I s0 p1 rx
  obtain ⟨bs, r2⟩ := hy.reads rfl I s0 p2 ry
  exact eq_plain r1 r2 p1 p2 (by omega) (fin_bool I s0 f)
theorem op_cNe (hu : X.A.units + 100 < cLine) : OpR X (compareOp .NotEq) (rB X.K X.mg cNe) := by
  intro pins s σ H x y v u Q I rx ry h
  obtain ⟨G, a, b, d, s0, hx, hy, e, f⟩ := h
  obtain ⟨⟨p1, p2, p3⟩, rfl⟩ := gd_some e
  obtain ⟨as, r1⟩ := hx.reads rfl I s0 p1 rx
  obtain ⟨bs, r2⟩ := hy.reads rfl I s0 p2 ry
  exact ne_plain r1 r2 p1 p2 (by omega) (fin_bool I s0 f)
theorem op_cLt (hu : X.A.units + 100 < cLine) : OpR X (compareOp .Lt) (rB X.K X.mg cLt) := by
  intro pins s σ H x y v u Q I rx ry h
  obtain ⟨G, a, b, d, s0, hx, hy, e, f⟩ := h
  unfold cLt at e
  split at e
  · cases Option.some.inj e
    exact op_lt pins s σ H x y v u Q I rx ry ⟨_, _, hx.int, hy.int, f.here s0 (.bl _)⟩
  · obtain ⟨⟨⟨p1, p2, p3⟩, al, nn⟩, rfl⟩ := gd_some e
    obtain ⟨as, r1⟩ := hx.reads rfl I s0 p1 rx
    obtain ⟨bs, r2⟩ := hy.reads rfl I s0 p2 ry
    exact PySem.W.rcLt_alike _ _ X.A s v u as bs r1 r2 al (fun z => by rw [z] at nn; cases nn) (by omega) X.prog X.w X.xe _ (fin_bool I s0 f)
theorem op_cLe : OpR X (compareOp .LtE) (rB X.K X.mg cLe) := by
  intro pins s σ H x y v u Q I rx ry h
  obtain ⟨G, a, b, d, s0, hx, hy, e, f⟩ := h
  cases a <;> cases b <;> simp only [cLe, reduceCtorEq, Option.some.injEq] at e
  subst e
  exact op_le pins s σ H x y v u Q I rx ry ⟨_, _, hx.int, hy.int, f.here s0 (.bl _)⟩
theorem op_cGt (hu : X.A.units + 100 < cLine) : OpR X (compareOp .Gt) (rB X.K X.mg cGt) := by
  intro pins s σ H x y v u Q I rx ry h
  obtain ⟨G, a, b, d, s0, hx, hy, e, f⟩ := h
  unfold cGt at e
  split at e
  · cases Option.some.inj e
    exact op_gt pins s σ H x y v u Q I rx ry ⟨_, _, hx.int, hy.int, f.here s0 (.bl _)⟩
  · obtain ⟨⟨⟨p1, p2, p3⟩, al, nn⟩, rfl⟩ := gd_some e
    obtain ⟨as, r1⟩ := hx.reads rfl I s0 p1 rx
    obtain ⟨bs, r2⟩ := hy.reads rfl I s0 p2 ry
    exact PySem.W.rcGt_alike _ _ X.A s v u as bs r1 r2 al (fun z => by rw [z] at nn; cases nn) (by omega) X.prog X.w X.xe _ (fin_bool I s0 f)
theorem op_cGe (hu : X.A.units + 100 < cLine) : OpR X (compareOp .GtE) (rB X.K X.mg cGe) := by
  intro pins s σ H x y v u Q I rx ry h
  obtain ⟨G, a, b, d, s0, hx, hy, e, f⟩ := h
  unfold cGe at e
  split at e
  · cases Option.some.inj e
    exact op_ge pins s σ H x y v u Q I rx ry ⟨_, _, hx.int, hy.int, f.here s0 (.bl _)⟩
  · obtain ⟨⟨⟨p1, p2, p3⟩, al, nn⟩, rfl⟩ := gd_some e
    obtain ⟨as, r1⟩ := hx.reads rfl I s0 p1 rx
    obtain ⟨bs, r2⟩ := hy.reads rfl I s0 p2 ry
    exact PySem.W.rcGe_alike _ _ X.A s v u as bs r1 r2 al (fun z => by rw [z] at nn; cases nn) (by omega) X.prog X.w X.xe _ (fin_bool I s0 f)
theorem str_one {x : Str} {c : Nat} (h : x.cps.toList = [c]) : x = ⟨#[c]⟩ := TL.ext_tl h
theorem op_cIn (hu : X.A.units + 100 < cLine) : OpR X (compareOp .In) (rB X.K X.mg cIn) := by
  intro pins s σ H x y v u Q I rx ry h
  obtain ⟨G, a, b, d, s0, hx, hy, e, f⟩ := h
  unfold cIn at e
  split at e
  · cases Option.some.inj e
    rename_i p q
    rw [hx.str] at rx
    rw [hy.str] at ry
    unfold inS at f
    split at f
    · rename_i c hc
      have := str_one hc
      subst this
      exact op_in_sign pins s σ H _ _ v u Q I rx ry ⟨c, _, rfl, rfl, f.here s0 (.bl _)⟩
    · exact op_in_str pins s σ H _ _ v u Q I rx ry ⟨_, _, rfl, rfl, f.here s0 (.bl _)⟩
  · obtain ⟨⟨p1, p2, p3⟩, rfl⟩ := gd_some e
    obtain ⟨as, r1⟩ := hx.reads rfl I s0 p1 rx
    obtain ⟨bs, r2⟩ := hy.reads rfl I s0 (by simpa [PyData.plain] using p2) ry
    exact in_list_data r2 r1 p2 p1 (by omega) (fin_bool I s0 f)
  · obtain ⟨⟨p1, p2, p3⟩, rfl⟩ := gd_some e
    obtain ⟨as, r1⟩ := hx.reads rfl I s0 p1 rx
    obtain ⟨bs, r2⟩ := hy.reads rfl I s0 (by simpa [PyData.plain] using p2) ry
    exact in_tuple_data r2 r1 p2 p1 (by omega) (fin_bool I s0 f)
  · cases e
theorem op_cNotIn (hu : X.A.units + 100 < cLine) : OpR X (compareOp .NotIn) (rB X.K X.mg cNotIn) := by
  intro pins s σ H x y v u Q I rx ry h
  obtain ⟨G, a, b, d, s0, hx, hy, e, f⟩ := h
  unfold cNotIn at e
  cases q : cIn a b with
  | none => rw [q] at e; cases e
  | some z =>
    rw [q] at e
    cases z with
    | bool c =>
      cases Option.some.inj e
      unfold cIn at q
      split at q
      · cases Option.some.inj q
        rename_i p q
        rw [hx.str] at rx
        rw [hy.str] at ry
        unfold inS at f
        split at f
        · rename_i c hc
          have := str_one hc
          subst this
          exact op_notIn_sign pins s σ H _ _ v u Q I rx ry ⟨c, _, rfl, rfl, f.here s0 (.bl _)⟩
        · exact L2.op_notIn_str pins s σ H _ _ v u Q I rx ry ⟨_, _, rfl, rfl, f.here s0 (.bl _)⟩
      · obtain ⟨⟨p1, p2, p3⟩, hz⟩ := gd_some q
        cases hz
        obtain ⟨as, r1⟩ := hx.reads rfl I s0 p1 rx
        obtain ⟨bs, r2⟩ := hy.reads rfl I s0 (by simpa [PyData.plain] using p2) ry
        exact notIn_list_data r2 r1 p2 p1 (by omega) (fin_bool I s0 f)
      · obtain ⟨⟨p1, p2, p3⟩, hz⟩ := gd_some q
        cases hz
        obtain ⟨as, r1⟩ := hx.reads rfl I s0 p1 rx
        obtain ⟨bs, r2⟩ := hy.reads rfl I s0 (by simpa [PyData.plain] using p2) ry
        exact notIn_tuple_data r2 r1 p2 p1 (by omega) (fin_bool I s0 f)
      · cases q
    | _ => cases e
theorem op_cIs : OpR X (compareOp .Is) (rB X.K X.mg cIs) := by
  intro pins s σ H x y v u Q I rx ry h
  obtain ⟨G, a, b, d, s0, hx, hy, e, f⟩ := h
  have viaN : ∀ k : Bool, b = .none → d = .bool k → (decide (x = .non) = k) → wpAny (model X.prog X.w) X.A (compareOp .Is v u) (EP X pins σ Q) X.xe s := fun k hb hd hk => by
    subst hb hd
    exact op_isN pins s σ H x y v u Q I rx ry ⟨hy.none, by rw [hk]; exact f.here s0 (.bl _)⟩
  unfold cIs at e
  split at e
  · cases Option.some.inj e
    exact op_is_bl pins s σ H x y v u Q I rx ry ⟨_, _, hx.bool, hy.bool, f.here s0 (.bl _)⟩
  · cases e
  · refine viaN _ rfl (Option.some.inj e).symm ?_
    obtain ⟨p, xs, rfl, _⟩ := hx.lst s0
    rfl
  · rename_i n0 n1 n2
    refine viaN _ rfl (Option.some.inj e).symm ?_
    cases a with
    | none => rw [hx.none]; rfl
    | bool _ => rw [hx.bool]; rfl
    | int _ => rw [hx.int]; rfl
    | str _ => rw [hx.str]; rfl
    | list _ => exact (n2 _ rfl).elim
    | tuple _ =>
      obtain ⟨p, xs, rfl, _⟩ := hx.tup s0
      rfl
    | dict _ => exact (n1 _ rfl).elim
  · cases e
theorem op_cIsNot : OpR X (compareOp .IsNot) (rB X.K X.mg cIsNot) := by
  intro pins s σ H x y v u Q I rx ry h
  obtain ⟨G, a, b, d, s0, hx, hy, e, f⟩ := h
  unfold cIsNot at e
  have viaN : ∀ k : Bool, b = .none → d = .bool (!k) → (decide (x = .non) = k) → wpAny (model X.prog X.w) X.A (compareOp .IsNot v u) (EP X pins σ Q) X.xe s := fun k hb hd hk => by
    subst hb hd
    exact op_notN pins s σ H x y v u Q I rx ry ⟨hy.none, by rw [hk]; exact f.here s0 (.bl _)⟩
  unfold cIs at e
  split at e
  · cases Option.some.inj e
    exact op_isnot_bl pins s σ H x y v u Q I rx ry ⟨_, _, hx.bool, hy.bool, f.here s0 (.bl _)⟩
  · cases e
  · refine viaN _ rfl (Option.some.inj e).symm ?_
    obtain ⟨p, xs, rfl, _⟩ := hx.lst s0
    rfl
  · rename_i n0 n1 n2
    refine viaN _ rfl (Option.some.inj e).symm ?_
    cases a with
    | none => rw [hx.none]; rfl
    | bool _ => rw [hx.bool]; rfl
    | int _ => rw [hx.int]; rfl
    | str _ => rw [hx.str]; rfl
    | list _ => exact (n2 _ rfl).elim
    | tuple _ =>
      obtain ⟨p, xs, rfl, _⟩ := hx.tup s0
      rfl
    | dict _ => exact (n1 _ rfl).elim
  · cases e
end
end Bg

set_option Elab.async false
set_option linter.all false
set_option maxRecDepth 100000
set_option maxHeartbeats 4000000
/-! Subscripts, slices, built-in calls and methods on plain data. -/
namespace Bg
open PySem PySem.Spec L2 PySem.SeqAt PyProof.Rows

/-! ### xs[i] -/
def ixD : D → D → Option D
  | .list ds, .int i => atI ds i
  | .tuple ds, .int i => atI ds i
  | .str z, .int i => (atI z.cps.toList i).map fun c => .str ⟨#[c]⟩
  | .dict [(.list ds, .none)], .int i => atI ds i
  | _, _ => none
section
variable {K : PySem.W.Frag} {mg : Str → Option Value} {G H : Hp}
theorem RpA.atI {vs : List V} {ds : List D} {i : Int} {d : D} (h : RpA K mg G vs ds) (e : L2.atI ds i = some d) : ∃ v, L2.atI vs i = some v ∧ Rp K mg G v d := by
  unfold L2.atI at e ⊢
  rw [h.length]
  cases q : ixN ds.length i with
  | none => rw [q] at e; cases e
  | some j =>
    rw [q] at e
    obtain ⟨v, hv, hr⟩ := h.getD (i := j) (d := d) (by simpa using e)
    exact ⟨v, by simpa using hv, hr⟩
end
section
variable {X : Cx}
theorem ix_D : IxR X (rB X.K X.mg ixD) := by
  intro value slice pins s σ H x y v u Q I rx ry h hs
  obtain ⟨G, a, b, d, s0, hx, hy, e, f⟩ := h
  unfold ixD at e
  split at e
  · obtain ⟨p, xs, rfl, hp, ha⟩ := hx.lst s0
    obtain ⟨w, hw, hr⟩ := ha.atI e
    exact ix_list value slice pins s σ H _ _ v u Q I rx ry ⟨p, xs, _, w, rfl, hy.int, SqL.of hp, hw, f.here s0 hr⟩ hs
  · obtain ⟨p, xs, rfl, hp, ha⟩ := hx.tup s0
    obtain ⟨w, hw, hr⟩ := ha.atI e
    exact ix_tup value slice pins s σ H _ _ v u Q I rx ry ⟨p, xs, _, w, rfl, hy.int, hp, hw, f.here s0 hr⟩ hs
  · rename_i z i
    cases q : L2.atI z.cps.toList i with
    | none => rw [q] at e; cases e
    | some c =>
      rw [q] at e
      cases Option.some.inj e
      exact ix_str value slice pins s σ H _ _ v u Q I rx ry ⟨z, i, c, hx.str, hy.int, le_sl hx.lenS, q, f.here s0 (.str _ (show 1 ≤ 1000000 by decide))⟩ hs
  · have hx' := hx.rp (fun _ z => by cases z)
    cases hx' with
    | scr hq =>
      rename_i i _ ns
      have hn := RpA.ofInts (K := X.K) (mg := X.mg) (G := G) ns
      obtain ⟨w, hw, hr⟩ := hn.atI e
      exact ix_list value slice pins s σ H _ _ v u Q I rx ry ⟨_, _, _, w, rfl, hy.int, sqL_mono s0 hq, hw, f.here s0 hr⟩ hs
  · cases e
end

/-! ### xs[lo:hi] -/
def cutD {α : Type} (xs : List α) (lo hi : Option Int) : List α := (xs.drop (HT.sIx xs.length 0 lo)).take (HT.sIx xs.length xs.length hi - HT.sIx xs.length 0 lo)
def slD (d : D) (lo hi : Option Int) : Option D := match d with
  | .list ds => some (.list (cutD ds lo hi))
  | .tuple ds => some (.tuple (cutD ds lo hi))
  | .str z => some (.str ⟨(cutD z.cps.toList lo hi).toArray⟩)
  | _ => none
def rSl (K : PySem.W.Frag) (mg : Str → Option Value) : V → Option Int → Option Int → Hp → VK → Prop := fun x lo hi H Q => ∃ G a d, Same G H ∧ Rs K mg G H x a ∧ slD a lo hi = some d ∧ Fin K mg H G Q d
section
variable {X : Cx}
theorem RpA.cut {K : PySem.W.Frag} {mg : Str → Option Value} {G : Hp} {vs : List V} {ds : List D} (h : RpA K mg G vs ds) (lo hi : Option Int) : RpA K mg G (cutV vs lo hi) (cutD ds lo hi) := by
  unfold cutV cutD
  rw [h.length]
  exact (h.drop _).take _
theorem cutD_len {α : Type} (xs : List α) (lo hi : Option Int) : (cutD xs lo hi).length ≤ xs.length := by
  unfold cutD
  rw [List.length_take, List.length_drop]
  omega
theorem sl_D : SlR X (rSl X.K X.mg) := by
  intro pins s σ H x v vl vu lo hi sl Q I rx hs pl pu h
  obtain ⟨G, a, d, s0, hx, e, f⟩ := h
  unfold slD at e
  split at e
  · cases Option.some.inj e
    obtain ⟨p, xs, rfl, hp, ha⟩ := hx.lst s0
    exact sl_list pins s σ H _ v vl vu lo hi sl Q I rx hs pl pu ⟨p, xs, rfl, SqL.of hp, fun z hz => f.newL s0 (ha.cut lo hi) (Nat.le_trans (cutD_len _ lo hi) hx.lenL) hz⟩
  · cases Option.some.inj e
    have tx := hx.rp (fun _ z => by cases z)
    obtain ⟨p, xs, rfl, hp, ha⟩ := hx.tup s0
    refine sl_tupA pins s σ H _ v vl vu lo hi sl Q I rx hs pl pu ⟨p, xs, rfl, hp, fun ⟨e1, e2⟩ => ?_, fun _ z hz => f.newT s0 (ha.cut lo hi) (Nat.le_trans (cutD_len _ lo hi) hx.lenT) hz⟩
    rw [ha.length] at e1 e2
    unfold cutD at f
    rw [e1, e2, Nat.sub_zero, List.drop_zero, List.take_length] at f
    exact f.here s0 tx
  · cases Option.some.inj e
    rename_i z
    refine sl_str pins s σ H _ v vl vu lo hi sl Q I rx hs pl pu ⟨z, hx.str, le_sl hx.lenS, ?_⟩
    have q := f.here s0 (.str _ (by show (cutD z.cps.toList lo hi).toArray.size ≤ 1000000; rw [List.size_toArray]; exact Nat.le_trans (cutD_len _ lo hi) (by rw [Array.length_toList]; exact hx.lenS)))
    unfold cutD at q
    unfold cutS
    rw [Array.length_toList] at q
    exact q
  · cases e
end

/-! ### built-in calls -/
def asI : List D → Option (List Int)
  | [] => some []
  | .int i :: r => (asI r).map (i :: ·)
  | _ => none
theorem asI_eq : ∀ {ds : List D} {ns : List Int}, asI ds = some ns → ds = ns.map .int
  | [], _, h => by cases Option.some.inj h; rfl
  | .int i :: r, ns, h => by
    simp only [asI, Option.map_eq_some_iff] at h
    obtain ⟨m, h1, rfl⟩ := h
    rw [asI_eq h1]; rfl
  | .none :: _, _, h => by cases h
  | .bool _ :: _, _, h => by cases h
  | .str _ :: _, _, h => by cases h
  | .list _ :: _, _, h => by cases h
  | .tuple _ :: _, _, h => by cases h
  | .dict _ :: _, _, h => by cases h
theorem asI_map : ∀ ns : List Int, asI (ns.map .int) = some ns
  | [] => rfl
  | n :: ns => by simp only [List.map_cons, asI, asI_map ns, Option.map_some]
def asB : List D → Option (List Bool)
  | [] => some []
  | .bool i :: r => (asB r).map (i :: ·)
  | _ => none
theorem asB_eq : ∀ {ds : List D} {ns : List Bool}, asB ds = some ns → ds = ns.map .bool
  | [], _, h => by cases Option.some.inj h; rfl
  | .bool i :: r, ns, h => by
    simp only [asB, Option.map_eq_some_iff] at h
    obtain ⟨m, h1, rfl⟩ := h
    rw [asB_eq h1]; rfl
  | .none :: _, _, h => by cases h
  | .int _ :: _, _, h => by cases h
  | .str _ :: _, _, h => by cases h
  | .list _ :: _, _, h => by cases h
  | .tuple _ :: _, _, h => by cases h
  | .dict _ :: _, _, h => by cases h
theorem asB_map : ∀ ns : List Bool, asB (ns.map .bool) = some ns
  | [] => rfl
  | n :: ns => by simp only [List.map_cons, asB, asB_map ns, Option.map_some]
def asS : List D → Option (List Str)
  | [] => some []
  | .str i :: r => (asS r).map (i :: ·)
  | _ => none
theorem asS_eq : ∀ {ds : List D} {ns : List Str}, asS ds = some ns → ds = ns.map .str
  | [], _, h => by cases Option.some.inj h; rfl
  | .str i :: r, ns, h => by
    simp only [asS, Option.map_eq_some_iff] at h
    obtain ⟨m, h1, rfl⟩ := h
    rw [asS_eq h1]; rfl
  | .none :: _, _, h => by cases h
  | .int _ :: _, _, h => by cases h
  | .bool _ :: _, _, h => by cases h
  | .list _ :: _, _, h => by cases h
  | .tuple _ :: _, _, h => by cases h
  | .dict _ :: _, _, h => by cases h
theorem asS_map : ∀ ns : List Str, asS (ns.map .str) = some ns
  | [] => rfl
  | n :: ns => by simp only [List.map_cons, asS, asS_map ns, Option.map_some]

def fLen : List D → Option D
  | [.list ds] => some (.int ds.length)
  | [.tuple ds] => some (.int ds.length)
  | [.str z] => some (.int z.length)
  | [.dict [(.list ds, .none)]] => some (.int ds.length)
  | _ => none
def fSum : List D → Option D
  | [.list ds] => (asI ds).map fun ns => .int ns.sum
  | [.tuple ds] => (asI ds).map fun ns => .int ns.sum
  | _ => none
def fAll : List D → Option D
  | [.list ds] => (asB ds).map fun bs => .bool (bs.all id)
  | _ => none
def fTuple : List D → Option D
  | [.list ds] => some (.tuple ds)
  | [.tuple ds] => some (.tuple ds)
  | _ => none
def sgn (z : Str) : List D := z.cps.toList.map fun c => .str ⟨#[c]⟩
def fList : List D → Option D
  | [.list ds] => some (.list ds)
  | [.tuple ds] => some (.list ds)
  | [.str z] => some (.list (sgn z))
  | _ => none
def fInt : List D → Option D
  | [.int i] => some (.int i)
  | [.bool b] => some (.int (if b then 1 else 0))
  | [.str z] => if z.length ≤ 640 then (PySem.intText? z).map .int else none
  | _ => none
def fStr : List D → Option D
  | [.int i] => gd (i.natAbs.log2 < 1920 ∧ (toString i : String).length ≤ 1000) (.str (toString i))
  | _ => none
def fAbs : List D → Option D
  | [.int i] => some (.int (if i < 0 then -i else i))
  | _ => none
def alikeL (x : D) (xs : List D) : Prop := (∀ y ∈ x :: xs, ∀ z ∈ x :: xs, PySem.W.alike y z = true) ∧ (∀ y ∈ x :: xs, nonD y = false) ∧ PyData.plainAll (x :: xs) = true ∧ PyData.depthAll (x :: xs) ≤ 60
instance (x : D) (xs : List D) : Decidable (alikeL x xs) := by unfold alikeL; exact inferInstance
def fMax : List D → Option D
  | [.int i, .int j] => some (.int (if j > i then j else i))
  | [.list (x :: xs)] => gd (alikeL x xs) (PySem.W.maxD x xs)
  | [.tuple (x :: xs)] => gd (alikeL x xs) (PySem.W.maxD x xs)
  | _ => none
def fMin : List D → Option D
  | [.int i, .int j] => some (.int (if j < i then j else i))
  | [.list (x :: xs)] => gd (alikeL x xs) (PySem.W.minD x xs)
  | [.tuple (x :: xs)] => gd (alikeL x xs) (PySem.W.minD x xs)
  | _ => none
def tyNm : D → Option String
  | .none => some "NoneType"
  | .bool _ => some "bool"
  | .int _ => some "int"
  | .str _ => some "str"
  | .list _ => some "list"
  | .tuple _ => some "tuple"
  | .dict _ => none

section
variable {X : Cx}
theorem RsA.one {K : PySem.W.Frag} {mg : Str → Option Value} {G H : Hp} {vs : List V} {d : D} (h : RsA K mg G H vs [d]) : ∃ v, vs = [v] ∧ Rs K mg G H v d := by
  cases h with | cons h1 t => cases t; exact ⟨_, rfl, h1⟩
theorem RsA.two {K : PySem.W.Frag} {mg : Str → Option Value} {G H : Hp} {vs : List V} {d e : D} (h : RsA K mg G H vs [d, e]) : ∃ v w, vs = [v, w] ∧ Rs K mg G H v d ∧ Rs K mg G H w e := by
  cases h with | cons h1 t => cases t with | cons h2 t => cases t; exact ⟨_, _, rfl, h1, h2⟩
theorem cl_len : CallR X (.builtin "len") (rC X.K X.mg fLen) := by
  intro pins s σ H vs us Q I r h
  obtain ⟨G, ds, d, s0, hv, e, f⟩ := h
  unfold fLen at e
  split at e
  · cases Option.some.inj e
    obtain ⟨v, rfl, hw⟩ := hv.one
    obtain ⟨p, xs, rfl, hp, ha⟩ := hw.lst s0
    exact call_len_seq pins s σ H _ us Q I r ⟨p, xs, rfl, .inl (SqL.of hp), by rw [ha.length]; exact f.here s0 (.int _)⟩
  · cases Option.some.inj e
    obtain ⟨v, rfl, hw⟩ := hv.one
    obtain ⟨p, xs, rfl, hp, ha⟩ := hw.tup s0
    exact call_len_seq pins s σ H _ us Q I r ⟨p, xs, rfl, .inr hp, by rw [ha.length]; exact f.here s0 (.int _)⟩
  · cases Option.some.inj e
    obtain ⟨v, rfl, hw⟩ := hv.one
    exact call_len_str pins s σ H _ us Q I r ⟨_, by rw [hw.str], le_sl hw.lenS, f.here s0 (.int _)⟩
  · cases Option.some.inj e
    obtain ⟨v, rfl, hw⟩ := hv.one
    have hx' := hw.rp (fun _ z => by cases z)
    cases hx' with
    | scr hq =>
      refine call_len_seq pins s σ H _ us Q I r ⟨_, _, rfl, .inl (sqL_mono s0 hq), ?_⟩
      have q := f.here s0 (.int _)
      rw [List.length_map] at q ⊢
      exact q
  · cases e
theorem sum_tup {prog : Program} {w : World} {A : Around} {E : Value → Shared → Prop} {s : Shared} {l : Addr} {its : List Value} {ns : List Int} {Q : Value → Shared → Prop} (hh : A.handled = none) (hl : IsTup s.heap l its.toArray) (hi : IntsAre its ns)
    (h : ∀ h' tk t', (∀ b o, s.heap.get? b = some o → h'.get? b = some o) → Q (.int ns.sum t') { s with heap := h', toks := tk }) : wpAny (model prog w) A (call (.builtin "sum") [.ref l]) Q E s := by
  obtain ⟨xs, e⟩ := hi.allInts.items
  have hn : numsOf (intItems xs).toList = ns := by rw [← e]; exact hi.numsOf
  rw [nums_intItems] at hn
  rw [e] at hl
  refine PySem.W.ktm_sumG hh hl fun h' tk t' hk => ?_
  have := h h' tk t' hk
  rw [preSum_eq, List.take_of_length_le (by simp), hn]; exact this
theorem cl_sum (hc : X.calm = true) : CallR X (.builtin "sum") (rC X.K X.mg fSum) := by
  intro pins s σ H vs us Q I r h
  obtain ⟨G, ds, d, s0, hv, e, f⟩ := h
  unfold fSum at e
  split at e
  · obtain ⟨v, rfl, hw⟩ := hv.one
    obtain ⟨p, xs, rfl, hp, ha⟩ := hw.lst s0
    simp only [Option.map_eq_some_iff] at e
    obtain ⟨ns, h1, rfl⟩ := e
    rw [asI_eq h1] at ha
    rw [ha.ints] at hp
    exact cr_sum hc pins s σ H _ us Q I r ⟨p, ns, rfl, SqL.of hp, f.here s0 (.int _)⟩
  · obtain ⟨v, rfl, hw⟩ := hv.one
    obtain ⟨p, xs, rfl, hp, ha⟩ := hw.tup s0
    simp only [Option.map_eq_some_iff] at e
    obtain ⟨ns, h1, rfl⟩ := e
    rw [asI_eq h1] at ha
    rw [ha.ints] at hp
    obtain ⟨its, rv, pt, _⟩ := I.tuple hp
    rw [Vals.ref1 r]
    exact sum_tup (I.ok.hd hc) pt rv.ints fun h' tk t' k => ⟨.int _, H, I.kept (t' := tk) k, ⟨_, rfl⟩, f.here s0 (.int _)⟩
  · cases e
theorem cl_all (hc : X.calm = true) : CallR X (.builtin "all") (rC X.K X.mg fAll) := by
  intro pins s σ H vs us Q I r h
  obtain ⟨G, ds, d, s0, hv, e, f⟩ := h
  unfold fAll at e
  split at e
  · obtain ⟨v, rfl, hw⟩ := hv.one
    obtain ⟨p, xs, rfl, hp, ha⟩ := hw.lst s0
    simp only [Option.map_eq_some_iff] at e
    obtain ⟨ns, h1, rfl⟩ := e
    rw [asB_eq h1] at ha
    rw [ha.bools] at hp
    exact cr_all hc pins s σ H _ us Q I r ⟨p, ns, rfl, SqL.of hp, f.here s0 (.bl _)⟩
  · cases e
theorem cl_tuple : CallR X (.type "tuple") (rC X.K X.mg fTuple) := by
  intro pins s σ H vs us Q I r h
  obtain ⟨G, ds, d, s0, hv, e, f⟩ := h
  unfold fTuple at e
  split at e
  · cases Option.some.inj e
    obtain ⟨v, rfl, hw⟩ := hv.one
    obtain ⟨p, xs, rfl, hp, ha⟩ := hw.lst s0
    exact call_tuple_of pins s σ H _ us Q I r ⟨p, xs, rfl, .inl ⟨SqL.of hp, fun l hl => f.newT s0 ha hw.lenL hl⟩⟩
  · cases Option.some.inj e
    obtain ⟨v, rfl, hw⟩ := hv.one
    have tx := hw.rp (fun _ z => by cases z)
    obtain ⟨p, xs, rfl, hp, ha⟩ := hw.tup s0
    exact call_tuple_of pins s σ H _ us Q I r ⟨p, xs, rfl, .inr ⟨hp, f.here s0 tx⟩⟩
  · cases e
theorem sgn_vals {x : Str} {acc : Array Value} (h : ItemsOf (SignAt x) acc x.cps.size) : Vals (x.cps.toList.map fun c => V.str ⟨#[c]⟩) acc.toList := by
  refine L2.vals_of_at (by rw [List.length_map, Array.length_toList, Array.length_toList, h.1]) fun j y u h1 h2 => ?_
  obtain ⟨c, t, h3, rfl⟩ := h.2 j u (by simpa using h2)
  rw [List.getElem?_map, Array.getElem?_toList, h3] at h1
  cases Option.some.inj h1
  exact ⟨t, rfl⟩
theorem cl_list (hc : X.calm = true) : CallR X (.type "list") (rC X.K X.mg fList) := by
  intro pins s σ H vs us Q I r h
  obtain ⟨G, ds, d, s0, hv, e, f⟩ := h
  unfold fList at e
  split at e
  · cases Option.some.inj e
    obtain ⟨v, rfl, hw⟩ := hv.one
    obtain ⟨p, xs, rfl, hp, ha⟩ := hw.lst s0
    exact call_list_of pins s σ H _ us Q I r ⟨p, xs, rfl, .inl (SqL.of hp), fun l hl => f.newL s0 ha hw.lenL hl⟩
  · cases Option.some.inj e
    obtain ⟨v, rfl, hw⟩ := hv.one
    obtain ⟨p, xs, rfl, hp, ha⟩ := hw.tup s0
    exact call_list_of pins s σ H _ us Q I r ⟨p, xs, rfl, .inr hp, fun l hl => f.newL s0 ha hw.lenT hl⟩
  · cases Option.some.inj e
    obtain ⟨v, rfl, hw⟩ := hv.one
    rename_i z
    have hzz := hw.lenS
    have c := le_sl hzz
    rw [hw.str] at r
    obtain ⟨u, rfl, ru⟩ := L2.vals1 r
    obtain ⟨t, rfl⟩ := ru
    refine call_list_str (I.ok.hd hc) z t (hn := c) fun h' tk acc' c' hk hS' hacc => ?_
    have hf : H s.heap.objs.size = none := I.hok.fresh (Nat.le_refl _)
    have vv := sgn_vals hacc
    have ra : ∀ l : List Nat, RpA X.K X.mg G (l.map fun c => V.str ⟨#[c]⟩) (l.map fun c => PyData.str ⟨#[c]⟩) := fun l => by
      induction l with
      | nil => exact .nil
      | cons a r ih => exact .cons (.str _ (show 1 ≤ 1000000 by decide)) ih
    refine ⟨.ref _, _, I.laid (a := s.heap.objs.size) (t' := tk) (o := .lst (z.cps.toList.map fun c => V.str ⟨#[c]⟩)) hk (Nat.le_refl _) ?_, rfl, f.newL s0 (ra _) (by unfold sgn; rw [List.length_map, Array.length_toList]; exact hzz) hf⟩
    exact ⟨by rw [List.length_map, Array.length_toList]; exact c, acc'.toList, c', vv, by simpa using hS'⟩
  · cases e
theorem cl_int : CallR X (.type "int") (rC X.K X.mg fInt) := by
  intro pins s σ H vs us Q I r h
  obtain ⟨G, ds, d, s0, hv, e, f⟩ := h
  unfold fInt at e
  split at e
  · cases Option.some.inj e
    obtain ⟨v, rfl, hw⟩ := hv.one
    exact call_int1 pins s σ H _ us Q I r (.inl ⟨_, by rw [hw.int], f.here s0 (.int _)⟩)
  · cases Option.some.inj e
    obtain ⟨v, rfl, hw⟩ := hv.one
    exact call_int1 pins s σ H _ us Q I r (.inr ⟨_, by rw [hw.bool], f.here s0 (.int _)⟩)
  · obtain ⟨v, rfl, hw⟩ := hv.one
    split at e
    · rename_i hz
      simp only [Option.map_eq_some_iff] at e
      obtain ⟨n, h1, rfl⟩ := e
      exact call_int_str pins s σ H _ us Q I r ⟨_, n, by rw [hw.str], h1, hz, f.here s0 (.int _)⟩
    · cases e
  · cases e
theorem len_ofS (s : String) : (Str.ofString s).length = s.length := by
  have := congrArg List.length (TL.tl_ofString s)
  rw [List.length_map] at this
  rw [TL.len_tl, this]
  exact String.length_toList
theorem cl_str : CallR X (.type "str") (rC X.K X.mg fStr) := by
  intro pins s σ H vs us Q I r h
  obtain ⟨G, ds, d, s0, hv, e, f⟩ := h
  unfold fStr at e
  split at e
  · obtain ⟨c, rfl⟩ := gd_some e
    obtain ⟨v, rfl, hw⟩ := hv.one
    exact call_str_int pins s σ H _ us Q I r ⟨_, by rw [hw.int], c.1, f.here s0 (.str _ (Nat.le_trans (by rw [len_ofS]; exact c.2) (by decide)))⟩
  · cases e
theorem cl_abs : CallR X (.builtin "abs") (rC X.K X.mg fAbs) := by
  intro pins s σ H vs us Q I r h
  obtain ⟨G, ds, d, s0, hv, e, f⟩ := h
  unfold fAbs at e
  split at e
  · cases Option.some.inj e
    obtain ⟨v, rfl, hw⟩ := hv.one
    exact L2.call_abs pins s σ H _ us Q I r ⟨_, by rw [hw.int], f.here s0 (.int _)⟩
  · cases e
end
end Bg

set_option Elab.async false
set_option linter.all false
set_option maxRecDepth 100000
set_option maxHeartbeats 4000000
/-! min, max, sorted, isinstance; methods of texts, lists, tuples. -/
namespace Bg
open PySem PySem.Spec L2 PySem.SeqAt PyProof.Rows

section
variable {X : Cx} {pins : List (Addr × Obj)} {σ : L2.St} {G H : Hp} {s : Shared}
theorem plainAll_mem : ∀ {ds : List D}, PyData.plainAll ds = true → ∀ d ∈ ds, d.plain = true
  | [], _, d, h => by cases h
  | e :: ds, p, d, h => by
    have c' : e.plain = true ∧ PyData.plainAll ds = true := by simpa [PyData.plainAll] using p
    rcases List.mem_cons.mp h with rfl | h
    · exact c'.1
    · exact plainAll_mem c'.2 d h
theorem RpA.reads (I : Inv X pins σ H s) (s0 : Same G H) {xs : List V} {us : List Value} {ds : List D} (h : RpA X.K X.mg G xs ds) (pl : PyData.plainAll ds = true) (r : Vals xs us) : ∃ as, ReadsAll s.heap us ds as :=
  Dp.readsAll I ds xs us (dpA_mono s0 ds xs (RpA.dp ds xs pl h)) r
theorem alike_all {x : D} {xs : List D} (h : alikeL x xs) : PySem.W.AlikeAll (x :: xs) := ⟨h.1, fun y hy z => by have := h.2.1 y hy; rw [z] at this; cases this⟩
theorem best_at {d : D} {ds : List D} {xs : List V} {its : List Value} {i : Nat} {v : Value} {h' : Heap} {bs as : List Addr} (pl : PyData.plainAll ds = true) (ha : RpA X.K X.mg G xs ds) (rv : Vals xs its) (hr : ReadsAll s.heap its ds as)
    (hv : its[i]? = some v) (r : Reads h' v d bs) (hd : d.plain = true) (k : ∀ b o, s.heap.get? b = some o → h'.get? b = some o) : ∃ x, xs[i]? = some x ∧ RelV x v ∧ Rp X.K X.mg G x d := by
  have hl := rv.length
  have hi : i < its.length := (List.getElem?_eq_some_iff.mp hv).1
  have hx : xs[i]? = some xs[i] := List.getElem?_eq_getElem (by omega)
  obtain ⟨e, he, hre⟩ := ha.get hx
  obtain ⟨u, hu, ru⟩ := rv.get hx
  rw [hv] at hu
  cases Option.some.inj hu
  obtain ⟨cs, rr, _⟩ := PySem.W.readsAll_at hr i v hv
  have hem : e ∈ ds := List.mem_of_getElem? he
  rw [List.getD_eq_getElem?_getD, he] at rr
  have e1 : readOf h' v = e := readOf_plain (plainAll_mem pl e hem) (PyProof.Rows.Reads.keeps k rr)
  have e2 : readOf h' v = d := readOf_plain hd r
  rw [e1] at e2
  subst e2
  exact ⟨_, hx, ru, hre⟩
theorem fold_mem {f : D → D → D} (hf : ∀ a y, f a y = a ∨ f a y = y) : ∀ (xs : List D) (x : D), xs.foldl f x ∈ x :: xs
  | [], x => List.mem_singleton.mpr rfl
  | y :: ys, x => by
    rw [List.foldl_cons]
    rcases hf x y with e | e
    · rw [e]
      rcases List.mem_cons.mp (fold_mem hf ys x) with h | h
      · rw [h]; exact List.mem_cons_self
      · exact List.mem_cons_of_mem _ (List.mem_cons_of_mem _ h)
    · rw [e]
      exact List.mem_cons_of_mem _ (fold_mem hf ys y)
theorem minD_mem (x : D) (xs : List D) : PySem.W.minD x xs ∈ x :: xs := fold_mem (fun a y => by split <;> simp) xs x
theorem maxD_mem (x : D) (xs : List D) : PySem.W.maxD x xs ∈ x :: xs := fold_mem (fun a y => by split <;> simp) xs x
end

section
variable {X : Cx}
theorem cl_min (hc : X.calm = true) (hu : X.A.units + 100 < cLine) : CallR X (.builtin "min") (rC X.K X.mg fMin) := by
  intro pins s σ H vs us Q I r h
  obtain ⟨G, ds, d, s0, hv, e, f⟩ := h
  unfold fMin at e
  split at e
  · cases Option.some.inj e
    obtain ⟨v, w, rfl, h1, h2⟩ := hv.two
    exact call_min2 hc pins s σ H _ us Q I r ⟨_, _, by rw [h1.int, h2.int], f.here s0 (.int _)⟩
  · obtain ⟨c, rfl⟩ := gd_some e
    obtain ⟨v, rfl, hw⟩ := hv.one
    obtain ⟨p, xs, rfl, hp, ha⟩ := hw.lst s0
    obtain ⟨its, rv, hl, _⟩ := I.list (SqL.of hp)
    obtain ⟨as, hr⟩ := ha.reads I s0 c.2.2.1 rv
    rw [Vals.ref1 r]
    refine PySem.W.min_list_data (I.ok.hd hc) hl.isList hr (alike_all c) (by have := c.2.2.2; omega) fun i v h' tk bs hi rd k => ?_
    obtain ⟨x, _, rx, hx⟩ := best_at c.2.2.1 ha rv hr (by simpa using hi) rd (plainAll_mem c.2.2.1 _ (minD_mem _ _)) k
    exact ⟨x, H, I.kept (t' := tk) k, rx, f.here s0 hx⟩
  · obtain ⟨c, rfl⟩ := gd_some e
    obtain ⟨v, rfl, hw⟩ := hv.one
    obtain ⟨p, xs, rfl, hp, ha⟩ := hw.tup s0
    obtain ⟨its, rv, hl, _⟩ := I.tuple hp
    obtain ⟨as, hr⟩ := ha.reads I s0 c.2.2.1 rv
    rw [Vals.ref1 r]
    refine PySem.W.min_tuple_data (I.ok.hd hc) hl hr (alike_all c) (by have := c.2.2.2; omega) fun i v h' tk bs hi rd k => ?_
    obtain ⟨x, _, rx, hx⟩ := best_at c.2.2.1 ha rv hr (by simpa using hi) rd (plainAll_mem c.2.2.1 _ (minD_mem _ _)) k
    exact ⟨x, H, I.kept (t' := tk) k, rx, f.here s0 hx⟩
  · cases e
theorem cl_max (hc : X.calm = true) (hu : X.A.units + 100 < cLine) : CallR X (.builtin "max") (rC X.K X.mg fMax) := by
  intro pins s σ H vs us Q I r h
  obtain ⟨G, ds, d, s0, hv, e, f⟩ := h
  unfold fMax at e
  split at e
  · cases Option.some.inj e
    obtain ⟨v, w, rfl, h1, h2⟩ := hv.two
    exact call_max2 hc pins s σ H _ us Q I r ⟨_, _, by rw [h1.int, h2.int], f.here s0 (.int _)⟩
  · obtain ⟨c, rfl⟩ := gd_some e
    obtain ⟨v, rfl, hw⟩ := hv.one
    obtain ⟨p, xs, rfl, hp, ha⟩ := hw.lst s0
    obtain ⟨its, rv, hl, _⟩ := I.list (SqL.of hp)
    obtain ⟨as, hr⟩ := ha.reads I s0 c.2.2.1 rv
    rw [Vals.ref1 r]
    refine PySem.W.max_list_data (I.ok.hd hc) hl.isList hr (alike_all c) (by have := c.2.2.2; omega) fun i v h' tk bs hi rd k => ?_
    obtain ⟨x, _, rx, hx⟩ := best_at c.2.2.1 ha rv hr (by simpa using hi) rd (plainAll_mem c.2.2.1 _ (maxD_mem _ _)) k
    exact ⟨x, H, I.kept (t' := tk) k, rx, f.here s0 hx⟩
  · obtain ⟨c, rfl⟩ := gd_some e
    obtain ⟨v, rfl, hw⟩ := hv.one
    obtain ⟨p, xs, rfl, hp, ha⟩ := hw.tup s0
    obtain ⟨its, rv, hl, _⟩ := I.tuple hp
    obtain ⟨as, hr⟩ := ha.reads I s0 c.2.2.1 rv
    rw [Vals.ref1 r]
    refine PySem.W.max_tuple_data (I.ok.hd hc) hl hr (alike_all c) (by have := c.2.2.2; omega) fun i v h' tk bs hi rd k => ?_
    obtain ⟨x, _, rx, hx⟩ := best_at c.2.2.1 ha rv hr (by simpa using hi) rd (plainAll_mem c.2.2.1 _ (maxD_mem _ _)) k
    exact ⟨x, H, I.kept (t' := tk) k, rx, f.here s0 hx⟩
  · cases e
end

/-! ### sorted -/
def tupNE : D → Bool
  | .tuple (_ :: _) => true
  | _ => false
def othD : D → Bool
  | .none => false
  | .tuple _ => false
  | _ => true
def sortOk (ds : List D) : Prop := (∀ y ∈ ds, ∀ z ∈ ds, PySem.W.alike y z = true) ∧ (ds.all tupNE = true ∨ ds.all othD = true) ∧ PyData.plainAll ds = true ∧ PyData.depthAll ds ≤ 60 ∧ ds.length ≤ 100000
instance (ds : List D) : Decidable (sortOk ds) := by unfold sortOk; exact inferInstance
def sortD (ds : List D) : List D := ds.mergeSort (PySem.W.dataLe false id)
def fSorted : List D → Option D
  | [.list ds] => gd (sortOk ds) (.list (sortD ds))
  | _ => none
theorem depthAll_mem : ∀ {ds : List D} {n : Nat}, PyData.depthAll ds ≤ n → ∀ d ∈ ds, d.depth ≤ n
  | [], _, _, d, h => by cases h
  | e :: ds, n, p, d, h => by
    have c' : e.depth ≤ n ∧ PyData.depthAll ds ≤ n := by
      simp only [PyData.depthAll] at p
      omega
    rcases List.mem_cons.mp h with rfl | h
    · exact c'.1
    · exact depthAll_mem c'.2 d h
section
variable {X : Cx}
theorem RpA.of_zip {K : PySem.W.Frag} {mg : Str → Option Value} {G : Hp} : ∀ {zs : List (V × D)}, (∀ p ∈ zs, Rp K mg G p.1 p.2) → RpA K mg G (zs.map Prod.fst) (zs.map Prod.snd)
  | [], _ => .nil
  | z :: zs, h => .cons (h z List.mem_cons_self) (RpA.of_zip fun p hp => h p (List.mem_cons_of_mem _ hp))
theorem RpA.zip {K : PySem.W.Frag} {mg : Str → Option Value} {G : Hp} : ∀ {xs : List V} {ds : List D}, RpA K mg G xs ds → ∀ p ∈ xs.zip ds, Rp K mg G p.1 p.2
  | _, _, .nil, p, h => by simp at h
  | _, _, .cons r t, p, h => by
    rw [List.zip_cons_cons] at h
    rcases List.mem_cons.mp h with rfl | h
    · exact r
    · exact RpA.zip t p h
theorem each_of {K : PySem.W.Frag} {mg : Str → Option Value} {G : Hp} : ∀ {xs : List V} {ds : List D} {its : List Value}, RpA K mg G xs ds → Vals xs its → PySem.W.EachIs (fun (v : Value) (b : V × D) => RelV b.1 v) its (xs.zip ds)
  | _, _, _, .nil, .nil => .nil
  | _, _, _, .cons _ t, .cons r t' => .cons r (each_of t t')
theorem each_vals : ∀ {out : List Value} {zs : List (V × D)}, PySem.W.EachIs (fun (v : Value) (b : V × D) => RelV b.1 v) out zs → Vals (zs.map Prod.fst) out
  | _, _, .nil => .nil
  | _, _, .cons r t => .cons r (each_vals t)
theorem each_reads {h : Heap} : ∀ {xs : List V} {ds : List D} {its : List Value} {as : List Addr}, ReadsAll h its ds as → xs.length = ds.length → PySem.W.EachIs (fun (v : Value) (b : V × D) => ∃ as, Reads h v b.2 as) its (xs.zip ds)
  | [], [], _, _, .nil, _ => .nil
  | _ :: xs, _ :: ds, _, _, .cons r rs, hl => .cons ⟨_, r⟩ (each_reads rs (by simpa using hl))
theorem cl_sorted (hu : X.A.units + 100 < cLine) : CallR X (.builtin "sorted") (rC X.K X.mg fSorted) := by
  intro pins s σ H vs us Q I r h
  obtain ⟨G, ds, d, s0, hv, e, f⟩ := h
  unfold fSorted at e
  split at e
  · rename_i ds
    obtain ⟨⟨c1, c2, c3, c4, c5⟩, rfl⟩ := gd_some e
    obtain ⟨v, rfl, hw⟩ := hv.one
    obtain ⟨p, xs, rfl, hp, ha⟩ := hw.lst s0
    obtain ⟨its, rv, hl, hz⟩ := I.list (SqL.of hp)
    obtain ⟨as, hr⟩ := ha.reads I s0 c3 rv
    rw [Vals.ref1 r]
    have hlen := ha.length
    have em : (xs.zip ds).map (fun b : V × D => b.2) = ds := List.map_snd_zip (by omega)
    have sl := sizeLine_eq
    refine PySem.W.sorted_data (enc := fun b : V × D => b.2) hl.isList (each_of ha rv) (each_reads hr hlen) (by rw [em]; exact fun d hd d' hd' => c1 d hd d' hd') ?_ (by rw [List.length_zip]; omega) ?_ fun out hlo ho => ?_
    · rw [em]
      rcases c2 with c2 | c2
      · refine .inl fun d hd => ?_
        have := List.all_eq_true.mp c2 d hd
        unfold tupNE at this
        split at this
        · exact ⟨_, _, rfl⟩
        · cases this
      · refine .inr fun d hd => ?_
        have := List.all_eq_true.mp c2 d hd
        constructor
        · rintro rfl; cases this
        · rintro xs rfl; cases this
    · intro b hb
      have hb2 : b.2 ∈ ds := (List.of_mem_zip (a := b.1) (b := b.2) hb).2
      have := depthAll_mem c4 b.2 hb2
      omega
    · obtain ⟨ep, he'⟩ := PyProof.Rows.sortedAll_at s.heap its out.toArray
      have vv := each_vals ho
      have hf : H (s.heap.objs.size + 1) = none := I.hok.fresh (Nat.le_succ _)
      have es : ((xs.zip ds).mergeSort (PySem.W.dataLe false fun b : V × D => b.2)).map Prod.snd = sortD ds := by
        unfold sortD
        refine (PySem.W.sort_maps (r := PySem.W.dataLe false fun b : V × D => b.2) (s := PySem.W.dataLe false id) Prod.snd (fun _ _ _ _ => rfl)).trans ?_
        rw [em]
      have ra := RpA.of_zip (K := X.K) (mg := X.mg) (G := G) (zs := (xs.zip ds).mergeSort (PySem.W.dataLe false fun b : V × D => b.2)) fun p hp => ha.zip p (List.mem_mergeSort.mp hp)
      rw [es] at ra
      have ol : (((xs.zip ds).mergeSort (PySem.W.dataLe false fun b : V × D => b.2)).map Prod.fst).length ≤ sizeLine := by
        rw [List.length_map, List.length_mergeSort, List.length_zip]
        omega
      exact ⟨.ref _, _, I.laid (t' := s.toks) (o := .lst _) (fun _ _ => PyProof.Rows.sortedAll_old) (Nat.le_succ _) ⟨ol, out, ep, vv, by simpa using he'⟩, rfl, f.newL s0 ra (by unfold sortD; rw [List.length_mergeSort]; omega) hf⟩
  · cases e
end

/-! ### isinstance -/
def isi1 (d : D) (k : Int) : Option Bool := (tyNm d).bind fun t => kitB t (tyName k)
def isiA (d : D) : List D → Option Bool
  | [] => some false
  | .dict [(.none, .int k)] :: r => (isiA d r).bind fun b2 => (isi1 d k).map fun b1 => b1 || b2
  | _ => none
def fIsi : List D → Option D
  | [d, .dict [(.none, .int k)]] => (isi1 d k).map .bool
  | [d, .tuple cs] => (tyNm d).bind fun _ => (isiA d cs).map .bool
  | _ => none
section
variable {X : Cx}
theorem ty_ok {K : PySem.W.Frag} {mg : Str → Option Value} {G H : Hp} {v : V} {d : D} {t : String} (s0 : Same G H) (h : Rs K mg G H v d) (e : tyNm d = some t) : TyX K H v (.type t) := by
  cases d <;> simp only [tyNm, reduceCtorEq, Option.some.injEq] at e <;> subst e
  · rw [h.none]; exact .base .non
  · rw [h.bool]; exact .base (.bl _)
  · rw [h.int]; exact .base (.int _)
  · rw [h.str]; exact .base (.str _)
  · obtain ⟨p, xs, rfl, hp, ha⟩ := h.lst s0
    exact .base (.lst hp)
  · obtain ⟨p, xs, rfl, hp, ha⟩ := h.tup s0
    rcases hp with (hp | ⟨o, hp⟩) | ⟨o, its, n, h1, h2, _⟩
    · exact .base (.tup hp)
    · exact .fTuple hp
    · exact .kTuple h1 h2
theorem isiA_ok {K : PySem.W.Frag} {mg : Str → Option Value} {G : Hp} {d : D} {t : String} (ht : tyNm d = some t) : ∀ {cs : List D} {vs : List V} {b : Bool}, RpA K mg G vs cs → isiA d cs = some b → ∃ us, Paired ClsV vs us ∧ PySem.W.kitAny K (.type t) us = some b
  | [], _, b, .nil, e => by cases Option.some.inj e; exact ⟨[], .nil, rfl⟩
  | c :: cs, _, b, .cons r rs, e => by
    unfold isiA at e
    split at e
    · rename_i z
      cases z
    · rename_i k r' z
      cases z
      cases r with
      | ty =>
        cases q2 : isiA d cs with
        | none => rw [q2] at e; cases e
        | some b2 =>
          rw [q2] at e
          simp only [Option.bind_some, Option.map_eq_some_iff] at e
          obtain ⟨b1, q, rfl⟩ := e
          have q' : kitB t (tyName k) = some b1 := by unfold isi1 at q; rw [ht] at q; exact q
          obtain ⟨us, h1, h2⟩ := isiA_ok ht rs q2
          exact ⟨_, .cons (.ty _) h1, kitAny_cons (kit_ty q') (fun z => by subst z; exact h2) fun z => by subst z; rfl⟩
    · cases e
theorem cl_isi : CallR X (.builtin "isinstance") (rC X.K X.mg fIsi) := by
  intro pins s σ H vs us Q I r h
  obtain ⟨G, ds, d, s0, hv, e, f⟩ := h
  unfold fIsi at e
  split at e
  · obtain ⟨v, w, rfl, h1, h2⟩ := hv.two
    rename_i d k
    simp only [Option.map_eq_some_iff] at e
    obtain ⟨b, h3, rfl⟩ := e
    unfold isi1 at h3
    cases q : tyNm d with
    | none => rw [q] at h3; cases h3
    | some t =>
      rw [q] at h3
      have h2' := h2.rp (fun _ z => by cases z)
      cases h2' with
      | ty => exact call_isi pins s σ H _ us Q I r ⟨v, _, _, _, b, rfl, .ty _, ty_ok s0 h1 q, kit_ty h3, f.here s0 (.bl _)⟩
  · obtain ⟨v, w, rfl, h1, h2⟩ := hv.two
    rename_i d cs
    cases q : tyNm d with
    | none => rw [q] at e; cases e
    | some t =>
      rw [q] at e
      simp only [Option.bind_some, Option.map_eq_some_iff] at e
      obtain ⟨b, h3, rfl⟩ := e
      obtain ⟨p, xs, rfl, hp, ha⟩ := h2.tup s0
      obtain ⟨ws, k, e⟩ := isiA_ok (K := X.K) q ha h3
      obtain ⟨u1, u2, rfl, r1, r2⟩ := L2.vals2 r
      cases (show u2 = Value.ref p from r2)
      obtain ⟨P, Z, pp, hx⟩ := L2.kit_of I r1 (ty_ok s0 h1 q)
      obtain ⟨its, rv, ⟨o, g1, g2, n, g3⟩, _⟩ := I.tuple hp
      have e3 := ClsV.all k rv
      subst e3
      obtain ⟨oc, od, dt, sl⟩ := o
      simp only at g2 g3
      subst g2 g3
      exact PySem.W.kia_tup Z I.kIn pp g1 e hx fun tk => ⟨.bl b, H, I.tok tk, rfl, f.here s0 (.bl _)⟩
  · cases e
end

/-! ### methods -/
/-- the place of the first equal one -/
def idxD (ds : List D) (d : D) : Option Nat := if true ∈ ds.map (fun y => PyData.eqv y d) then some ((ds.map fun y => PyData.eqv y d).idxOf true) else none
def mIndexS : D → List D → Option D
  | .str a, [.str b] => match Builtin.Str.occurrences a b 0 a.length 1 with
    | i :: _ => some (.int (i : Nat))
    | [] => none
  | _, _ => none
def mIndexL : D → List D → Option D
  | .list ds, [d] => if d.plain = true ∧ PyData.plainAll ds = true ∧ min (PyData.depthAll ds) d.depth ≤ 60 then (idxD ds d).map fun (j : Nat) => .int (j : Int) else none
  | _, _ => none
def mIndexT : D → List D → Option D
  | .tuple ds, [d] => if d.plain = true ∧ PyData.plainAll ds = true ∧ min (PyData.depthAll ds) d.depth ≤ 60 then (idxD ds d).map fun (j : Nat) => .int (j : Int) else none
  | _, _ => none
def mCountS : D → List D → Option D
  | .str a, [.str b] => some (.int (Txt.count a b))
  | _, _ => none
def mCountL : D → List D → Option D
  | .list ds, [d] => if d.plain = true ∧ PyData.plainAll ds = true ∧ min (PyData.depthAll ds) d.depth ≤ 60 then some (.int ((ds.countP fun y => PyData.eqv y d : Nat) : Int)) else none
  | _, _ => none
def sumLen (ys : List Str) : Nat := (ys.map (·.length)).sum
def mJoin : D → List D → Option D
  | .str a, [.list ds] => (asS ds).bind fun ys => gd (sumLen ys + ys.length * a.length ≤ 1000000 ∧ (Txt.join a ys).length ≤ 1000000) (.str (Txt.join a ys))
  | .str a, [.tuple ds] => (asS ds).bind fun ys => gd (sumLen ys + ys.length * a.length ≤ 1000000 ∧ (Txt.join a ys).length ≤ 1000000) (.str (Txt.join a ys))
  | _, _ => none
def mStrip : D → List D → Option D
  | .str a, [.str b] => gd ((Txt.stripChars a b).length ≤ 1000000) (.str (Txt.stripChars a b))
  | _, _ => none
def mLstrip : D → List D → Option D
  | .str a, [.str b] => gd ((Txt.lstripChars a b).length ≤ 1000000) (.str (Txt.lstripChars a b))
  | _, _ => none
def mRstrip : D → List D → Option D
  | .str a, [.str b] => gd ((Txt.rstripChars a b).length ≤ 1000000) (.str (Txt.rstripChars a b))
  | _, _ => none
def mUpper : D → List D → Option D
  | .str a, [] => gd ((Txt.upper a).length ≤ 1000000) (.str (Txt.upper a))
  | _, _ => none
def mFind : D → List D → Option D
  | .str a, [.str b, .int i] => some (.int (Txt.find3 a b i))
  | _, _ => none
def mSplit : D → List D → Option D
  | .str a, [.str b] => gd ((b.length == 0) = false ∧ (Txt.split a b).length ≤ 1000000 ∧ (Txt.split a b).all (fun z => decide (z.length ≤ 1000000)) = true) (.list ((Txt.split a b).map .str))
  | _, _ => none
def mPartition : D → List D → Option D
  | .str a, [.str b] => gd ((b.length == 0) = false ∧ (Txt.partition a b).1.length ≤ 1000000 ∧ (Txt.partition a b).2.1.length ≤ 1000000 ∧ (Txt.partition a b).2.2.length ≤ 1000000) (.tuple [.str (Txt.partition a b).1, .str (Txt.partition a b).2.1, .str (Txt.partition a b).2.2])
  | _, _ => none
section
variable {X : Cx}
theorem items_eq {pins : List (Addr × Obj)} {σ : L2.St} {G H : Hp} {s : Shared} {A : Around} (I : Inv X pins σ H s) (s0 : Same G H) {xs : List V} {its : List Value} {ds : List D} {y : V} {u : Value} {d : D} (ha : RpA X.K X.mg G xs ds) (rv : Vals xs its) (hy : Rs X.K X.mg G H y d) (ry : RelV y u)
    (h1 : d.plain = true) (h2 : PyData.plainAll ds = true) (hu : A.units + min (PyData.depthAll ds) d.depth < cLine) : ItemsEq A s its (ds.map fun z => PyData.eqv z d) u true := by
  have hl := rv.length
  have hl2 := ha.length
  refine ⟨by rw [List.length_map]; omega, fun j g1 g2 => ?_⟩
  rw [List.length_map] at g2
  have hx : xs[j]? = some xs[j] := List.getElem?_eq_getElem (by omega)
  obtain ⟨e, he, hre⟩ := ha.get hx
  obtain ⟨w, hw, rw'⟩ := rv.get hx
  rw [List.getElem?_eq_getElem g1] at hw
  rw [Option.some.inj hw]
  have hem : e ∈ ds := List.mem_of_getElem? he
  obtain ⟨bs, rd⟩ := hy.reads rfl I s0 h1 ry
  obtain ⟨as, re⟩ := Rs.reads (X := X) rfl I s0 (.inl hre) (plainAll_mem h2 e hem) rw'
  have ge : ds[j] = e := by rw [List.getElem?_eq_getElem g2] at he; exact Option.some.inj he
  have dd := depthAll_mem (Nat.le_refl (PyData.depthAll ds)) e hem
  have q := eqAt_plain e d A s w u as bs re rd (plainAll_mem h2 e hem) h1 (by omega)
  have eb : decide ((List.map (fun z => PyData.eqv z d) ds)[j]'(by rw [List.length_map]; exact g2) = true) = PyData.eqv e d := by
    rw [List.getElem_map, ge]
    cases PyData.eqv e d <;> rfl
  rw [eb]
  exact q
theorem mt_Index_str : MtR X "str.index" (rM X.K X.mg mIndexS) := by
  intro pins s σ H x vs v us Q I rx rv h
  obtain ⟨G, a, ds, d, s0, hx, hv, e, f⟩ := h
  unfold mIndexS at e
  split at e
  · obtain ⟨w, rfl, hw⟩ := hv.one
    split at e
    · rename_i i rest hq
      cases Option.some.inj e
      exact mt_sindex pins s σ H _ _ v us Q I rx rv ⟨_, _, i, rest, hx.str, by rw [hw.str], hq, f.here s0 (.int _)⟩
    · cases e
  · cases e
theorem mt_Index_list (hu : X.A.units + 100 < cLine) : MtR X "list.index" (rM X.K X.mg mIndexL) := by
  intro pins s σ H x vs v us Q I rx rv h
  obtain ⟨G, a, ds, d, s0, hx, hv, e, f⟩ := h
  unfold mIndexL at e
  split at e
  · obtain ⟨w, rfl, hw⟩ := hv.one
    split at e
    · rename_i c
      unfold idxD at e
      split at e
      · rename_i hm
        cases Option.some.inj e
        obtain ⟨p, xs, rfl, hp, ha⟩ := hx.lst s0
        obtain ⟨its, r1, hl, hz⟩ := I.list (SqL.of hp)
        obtain ⟨u, rfl, ru⟩ := L2.vals1 rv
        cases rx
        refine call_list_index hl.isList (items_eq (A := X.A.in1) I s0 ha r1 hw ru c.1 c.2.1 (by show X.A.units + 1 + _ < _; have := c.2.2; omega)) (by rw [List.length_map, ← ha.length]; exact hz) hm ?_
        exact ⟨.int _, H, I.tok _, ⟨_, rfl⟩, f.here s0 (.int _)⟩
      · cases e
    · cases e
  · cases e
theorem mt_Index_tuple (hu : X.A.units + 100 < cLine) : MtR X "tuple.index" (rM X.K X.mg mIndexT) := by
  intro pins s σ H x vs v us Q I rx rv h
  obtain ⟨G, a, ds, d, s0, hx, hv, e, f⟩ := h
  unfold mIndexT at e
  split at e
  · obtain ⟨w, rfl, hw⟩ := hv.one
    split at e
    · rename_i c
      unfold idxD at e
      split at e
      · rename_i hm
        cases Option.some.inj e
        obtain ⟨p, xs, rfl, hp, ha⟩ := hx.tup s0
        obtain ⟨its, r1, hl, hz⟩ := I.tuple hp
        obtain ⟨u, rfl, ru⟩ := L2.vals1 rv
        cases rx
        refine call_tuple_index hl (items_eq (A := X.A.in1) I s0 ha r1 hw ru c.1 c.2.1 (by show X.A.units + 1 + _ < _; have := c.2.2; omega)) hm ?_
        exact ⟨.int _, H, I.tok _, ⟨_, rfl⟩, f.here s0 (.int _)⟩
      · cases e
    · cases e
  · cases e
theorem mt_Join : MtR X "str.join" (rM X.K X.mg mJoin) := by
  intro pins s σ H x vs v us Q I rx rv h
  obtain ⟨G, a, ds, d, s0, hx, hv, e, f⟩ := h
  unfold mJoin at e
  split at e
  · obtain ⟨w, rfl, hw⟩ := hv.one
    obtain ⟨p, xs, rfl, hp, ha⟩ := hw.lst s0
    rename_i ds
    cases q : asS ds with
    | none => rw [q] at e; cases e
    | some ys =>
      rw [q] at e
      obtain ⟨c, rfl⟩ := gd_some e
      rw [asS_eq q] at ha
      rw [ha.strs] at hp
      exact mt_join pins s σ H _ _ v us Q I rx rv ⟨_, p, ys, hx.str, rfl, .inl (SqL.of hp), Nat.le_trans c.1 (by decide), f.here s0 (.str _ c.2)⟩
  · obtain ⟨w, rfl, hw⟩ := hv.one
    obtain ⟨p, xs, rfl, hp, ha⟩ := hw.tup s0
    rename_i ds
    cases q : asS ds with
    | none => rw [q] at e; cases e
    | some ys =>
      rw [q] at e
      obtain ⟨c, rfl⟩ := gd_some e
      rw [asS_eq q] at ha
      rw [ha.strs] at hp
      exact mt_join pins s σ H _ _ v us Q I rx rv ⟨_, p, ys, hx.str, rfl, .inr hp, Nat.le_trans c.1 (by decide), f.here s0 (.str _ c.2)⟩
  · cases e
theorem mt_Strip : MtR X "str.strip" (rM X.K X.mg mStrip) := by
  intro pins s σ H x vs v us Q I rx rv h
  obtain ⟨G, a, ds, d, s0, hx, hv, e, f⟩ := h
  unfold mStrip at e
  split at e
  · obtain ⟨w, rfl, hw⟩ := hv.one
    obtain ⟨c, rfl⟩ := gd_some e
    exact mt_stripChars pins s σ H _ _ v us Q I rx rv ⟨_, _, hx.str, by rw [hw.str], le_sl hx.lenS, f.here s0 (.str _ c)⟩
  · cases e
theorem mt_Lstrip : MtR X "str.lstrip" (rM X.K X.mg mLstrip) := by
  intro pins s σ H x vs v us Q I rx rv h
  obtain ⟨G, a, ds, d, s0, hx, hv, e, f⟩ := h
  unfold mLstrip at e
  split at e
  · obtain ⟨w, rfl, hw⟩ := hv.one
    obtain ⟨c, rfl⟩ := gd_some e
    exact mt_lstripChars pins s σ H _ _ v us Q I rx rv ⟨_, _, hx.str, by rw [hw.str], le_sl hx.lenS, f.here s0 (.str _ c)⟩
  · cases e
theorem mt_Rstrip : MtR X "str.rstrip" (rM X.K X.mg mRstrip) := by
  intro pins s σ H x vs v us Q I rx rv h
  obtain ⟨G, a, ds, d, s0, hx, hv, e, f⟩ := h
  unfold mRstrip at e
  split at e
  · obtain ⟨w, rfl, hw⟩ := hv.one
    obtain ⟨c, rfl⟩ := gd_some e
    exact mt_rstripChars pins s σ H _ _ v us Q I rx rv ⟨_, _, hx.str, by rw [hw.str], le_sl hx.lenS, f.here s0 (.str _ c)⟩
  · cases e
theorem mt_Upper : MtR X "str.upper" (rM X.K X.mg mUpper) := by
  intro pins s σ H x vs v us Q I rx rv h
  obtain ⟨G, a, ds, d, s0, hx, hv, e, f⟩ := h
  unfold mUpper at e
  split at e
  · cases hv
    obtain ⟨c, rfl⟩ := gd_some e
    exact mt_upper pins s σ H _ _ v us Q I rx rv ⟨_, hx.str, rfl, Nat.le_trans hx.lenS (by decide), f.here s0 (.str _ c)⟩
  · cases e
theorem mt_Find : MtR X "str.find" (rM X.K X.mg mFind) := by
  intro pins s σ H x vs v us Q I rx rv h
  obtain ⟨G, a, ds, d, s0, hx, hv, e, f⟩ := h
  unfold mFind at e
  split at e
  · obtain ⟨w, z, rfl, hw, hz⟩ := hv.two
    cases Option.some.inj e
    exact mt_find3 pins s σ H _ _ v us Q I rx rv ⟨_, _, _, hx.str, by rw [hw.str, hz.int], f.here s0 (.int _)⟩
  · cases e
theorem mt_Count_str : MtR X "str.count" (rM X.K X.mg mCountS) := by
  intro pins s σ H x vs v us Q I rx rv h
  obtain ⟨G, a, ds, d, s0, hx, hv, e, f⟩ := h
  unfold mCountS at e
  split at e
  · obtain ⟨w, rfl, hw⟩ := hv.one
    cases Option.some.inj e
    exact mt_count pins s σ H _ _ v us Q I rx rv ⟨_, _, hx.str, by rw [hw.str], f.here s0 (.int _)⟩
  · cases e
theorem mt_Count_list (hu : X.A.units + 100 < cLine) : MtR X "list.count" (rM X.K X.mg mCountL) := by
  intro pins s σ H x vs v us Q I rx rv h
  obtain ⟨G, a, ds, d, s0, hx, hv, e, f⟩ := h
  unfold mCountL at e
  split at e
  · obtain ⟨w, rfl, hw⟩ := hv.one
    split at e
    · rename_i c
      cases Option.some.inj e
      obtain ⟨p, xs, rfl, hp, ha⟩ := hx.lst s0
      obtain ⟨its, r1, hl, hz⟩ := I.list (SqL.of hp)
      obtain ⟨as, hr⟩ := ha.reads I s0 c.2.1 r1
      obtain ⟨u, rfl, ru⟩ := L2.vals1 rv
      obtain ⟨bs, rd⟩ := hw.reads rfl I s0 c.1 ru
      cases rx
      exact count_list_data hl.isList hr rd c.2.1 c.1 (by have := c.2.2; omega) ⟨.int _, H, I.tok _, ⟨_, rfl⟩, f.here s0 (.int _)⟩
    · cases e
  · cases e
theorem RpA.ofStrs {K : PySem.W.Frag} {mg : Str → Option Value} {G : Hp} : ∀ (ns : List Str), ns.all (fun z => decide (z.length ≤ 1000000)) = true → RpA K mg G (ns.map V.str) (ns.map .str)
  | [], _ => .nil
  | n :: ns, h => by
    rw [List.all_cons, Bool.and_eq_true] at h
    exact .cons (.str n (of_decide_eq_true h.1)) (RpA.ofStrs ns h.2)
theorem mt_Split : MtR X "str.split" (rM X.K X.mg mSplit) := by
  intro pins s σ H x vs v us Q I rx rv h
  obtain ⟨G, a, ds, d, s0, hx, hv, e, f⟩ := h
  unfold mSplit at e
  split at e
  · obtain ⟨w, rfl, hw⟩ := hv.one
    obtain ⟨c, rfl⟩ := gd_some e
    exact mt_split pins s σ H _ _ v us Q I rx rv ⟨_, _, hx.str, by rw [hw.str], c.1, by have := hx.lenS; rw [sizeLine_eq]; omega, fun p hp => f.newL s0 (RpA.ofStrs _ c.2.2) (by rw [List.length_map]; exact c.2.1) hp⟩
  · cases e
theorem mt_Partition : MtR X "str.partition" (rM X.K X.mg mPartition) := by
  intro pins s σ H x vs v us Q I rx rv h
  obtain ⟨G, a, ds, d, s0, hx, hv, e, f⟩ := h
  unfold mPartition at e
  split at e
  · obtain ⟨w, rfl, hw⟩ := hv.one
    obtain ⟨c, rfl⟩ := gd_some e
    exact mt_partition pins s σ H _ _ v us Q I rx rv ⟨_, _, hx.str, by rw [hw.str], c.1, le_sl hx.lenS, fun p hp => f.newT s0 (.cons (.str _ c.2.1) (.cons (.str _ c.2.2.1) (.cons (.str _ c.2.2.2) .nil))) (show 3 ≤ 1000000 by decide) hp⟩
  · cases e
end
end Bg

set_option Elab.async false
set_option linter.all false
set_option maxRecDepth 100000
set_option maxHeartbeats 4000000
/-! The small language: its syntax, its evaluator over plain data. -/
namespace Bg
open PySem PySem.Spec L2

inductive Res (α : Type) where
  | ok (a : α) | ex (c : Nat) | no
def Res.bind {α β : Type} : Res α → (α → Res β) → Res β
  | .ok a, f => f a
  | .ex c, _ => .ex c
  | .no, _ => .no
def Res.ofO {α : Type} : Option α → Res α
  | some a => .ok a
  | none => .no
@[simp] theorem Res.bind_ok {α β : Type} (a : α) (f : α → Res β) : (Res.ok a).bind f = f a := rfl
@[simp] theorem Res.bind_ex {α β : Type} (c : Nat) (f : α → Res β) : (Res.ex c).bind f = .ex c := rfl
@[simp] theorem Res.bind_no {α β : Type} (f : α → Res β) : (Res.no).bind f = .no := rfl
@[simp] theorem Res.ofO_some {α : Type} (a : α) : Res.ofO (some a) = .ok a := rfl
@[simp] theorem Res.ofO_none {α : Type} : Res.ofO (none : Option α) = .no := rfl

inductive Bop where | add | sub | mul | mod | fdiv | pow
inductive Cop where | eq | ne | lt | le | gt | ge | is | isnot | isin | notin
inductive Bn where | len | sum | all | tuple | list | int | str | abs | max | min | sorted | isi
inductive Mn where | indexS | indexL | indexT | countS | countL | join | strip | lstrip | rstrip | upper | find | split | partition
inductive Tg where
  | one (i : Nat) | tup (is : List Nat)

mutual
inductive Ex where
  | var (i : Nat) | pk (i : Nat) | con (i : Nat) | fn (i : Nat) | ty (k : Int)
  | int (i : Int) | str (s : Str) | bl (b : Bool) | non
  | tup (es : Exs) | lst (es : Exs)
  | bin (op : Bop) (a b : Ex) | neg (a : Ex) | not (a : Ex) | and (a b : Ex) | or (a b : Ex) | one (a : Ex)
  | cmp (op : Cop) (a b : Ex) | chn (o1 o2 : Cop) (a b c : Ex) | ite (c a b : Ex)
  | sub (a i : Ex) | sl (a : Ex) (lo hi : Ox) | sls (a : Ex) (lo hi : Ox) (st : Int)
  | call (f : Nat) (as : Exs) | callv (i : Nat) (js : List Nat) (as : Exs)
  | bc (f : Bn) (as : Exs) | mt (m : Mn) (o : Ex) (as : Exs)
  | lc (t : Tg) (s : Sr) (c : Oc) (e : Ex)
  | lrng (as : Exs) | inr (a n : Ex) | getd (i : Nat) (ks : Exs) | repl (i : Nat) (c : Str) (j : Nat) | lack (f : Nat) (l : Ex) (c : Str) (r : Ex) | lackc (f : Nat) (c : Str)
inductive Exs where
  | nil | cons (e : Ex) (es : Exs)
inductive Ox where
  | no | some (e : Ex)
inductive Oc where
  | no | some (e : Ex)
inductive Sr where
  | it (e : Ex) | rng (as : Exs) | enum (e : Ex) | zip (a b : Ex)
end

/-- what a slot holds: nothing, data, one's own list -/
inductive Sl where
  | no | val (d : D) | own (ds : List D) | dic (kvs : List (List Key × D))

mutual
inductive Sx where
  | ex (x : Ex) | set (i : Nat) (x : Ex) | own (i : Nat) (x : Ex) | par (ts : List (Nat × Bool)) (xs : Exs) | unp (is : List Nat) (x : Ex)
  | app (i : Nat) (x : Ex) | ext (i : Nat) (x : Ex) | seti (i : Nat) (k x : Ex)
  | ret (x : Ex) | ite (c : Ex) (a b : Sxs) | for_ (t : Tg) (s : Sr) (b : Sxs) | whl (c : Ex) (b : Sxs)
  | raise (c : Nat) | tryo (b : Sxs) (c : Nat) (h : Sxs) | try2 (b : Sxs) (c : Nat) (h : Sxs) (c2 : Nat) (h2 : Sxs) | tryw (b : Sxs) (c i : Nat) | tryi (b : Sxs) (c i d : Nat) | pass | frz (i : Nat) | newd (i : Nat) | setd (i : Nat) (ks : Exs) (x : Ex)
inductive Sxs where
  | nil | cons (s : Sx) (r : Sxs)
end

structure Fd where
  name : Str
  par : Nat
  N : List Str
  body : Sxs
/-- a program's table: constants, defs, exceptions by their numbers; ws: the def that tells an error's word -/
structure Pt where
  consts : List (Nat × (Str × D))
  funs : List (Nat × Fd)
  excs : List (Nat × Str)
  ws : List (Str × Stmt) := []
  tw : List (Nat × Fd × Stmt) := []
def Pt.con (P : Pt) (i : Nat) : Option (Str × D) := P.consts.lookup i
def Pt.fn (P : Pt) (i : Nat) : Option Fd := P.funs.lookup i
def Pt.exc (P : Pt) (i : Nat) : Option Str := P.excs.lookup i
/-- the part of a table with these numbers -/
def Pt.only (P : Pt) (cs fs es : List Nat) (ws : List (Str × Stmt)) : Pt := ⟨P.consts.filter fun p => cs.contains p.1, P.funs.filter fun p => fs.contains p.1, P.excs.filter fun p => es.contains p.1, ws, []⟩
/-- one error class below another: all below the first -/
def subE (c d : Nat) : Bool := decide (c = d) || decide (d = 0)
def wordOf : Nat → Str
  | 1 => "no row"
  | 2 => "no code"
  | 3 => "doubtful"
  | 4 => "closed"
  | 5 => "no text"
  | _ => "wrong"

def Ex.st : Ex → Bool
  | .pk _ => false
  | _ => true
def Ex.isIte : Ex → Bool
  | .ite _ _ _ => true
  | _ => false
def Ex.isBo : Ex → Bool
  | .and _ _ => true
  | .or _ _ => true
  | .one _ => true
  | _ => false
def Exs.allSt : Exs → Bool
  | .nil => true
  | .cons e es => e.st && es.allSt
def Exs.len : Exs → Nat
  | .nil => 0
  | .cons _ es => es.len + 1

def bop : Bop → D → D → Option D
  | .add => bAdd | .sub => bSub | .mul => bMul | .mod => bMod | .fdiv => bFdiv | .pow => bPow
def cop : Cop → D → D → Option D
  | .eq => cEq | .ne => cNe | .lt => cLt | .le => cLe | .gt => cGt | .ge => cGe | .is => cIs | .isnot => cIsNot | .isin => cIn | .notin => cNotIn
def bfn : Bn → List D → Option D
  | .len => fLen | .sum => fSum | .all => fAll | .tuple => fTuple | .list => fList | .int => fInt | .str => fStr | .abs => fAbs | .max => fMax | .min => fMin | .sorted => fSorted | .isi => fIsi
def mtd : Mn → D → List D → Option D
  | .indexS => mIndexS | .indexL => mIndexL | .indexT => mIndexT | .countS => mCountS | .countL => mCountL | .join => mJoin | .strip => mStrip | .lstrip => mLstrip | .rstrip => mRstrip
  | .upper => mUpper | .find => mFind | .split => mSplit | .partition => mPartition
/-- the receiver is of the method's type -/
def rcv : Mn → D → Bool
  | .indexL, .list _ => true
  | .countL, .list _ => true
  | .indexT, .tuple _ => true
  | .indexL, _ => false
  | .countL, _ => false
  | .indexT, _ => false
  | _, .str _ => true
  | _, _ => false
def asBool : D → Res Bool
  | .bool b => .ok b
  | _ => .no
def asInt : D → Res Int
  | .int b => .ok b
  | _ => .no

/-! slots -/
def setAll : List Sl → List Nat → List D → List Sl
  | ρ, i :: is, d :: ds => setAll (ρ.set i (.val d)) is ds
  | ρ, _, _ => ρ
def bindT (ρ : List Sl) : Tg → D → Option (List Sl)
  | .one i, d => some (ρ.set i (.val d))
  | .tup is, .tuple ds => if is.length = ds.length then some (setAll ρ is ds) else none
  | .tup _, _ => none
def Tg.slots : Tg → List Nat
  | .one i => [i]
  | .tup is => is
def wipeR (ρ : List Sl) : List Nat → List Sl
  | [] => ρ
  | v :: vs => (wipeR ρ vs).set v .no
/-- what a for walks over -/
def itemsOf : D → Option (List D)
  | .list ds => some ds
  | .tuple ds => some ds
  | .str z => some (sgn z)
  | _ => none
def enumD : Nat → List D → List D
  | _, [] => []
  | k, d :: ds => .tuple [.int (k : Int), d] :: enumD (k + 1) ds
def zipD : List D → List D → List D
  | a :: as, b :: bs => .tuple [a, b] :: zipD as bs
  | _, _ => []
def upto (lo : Int) : Nat → List D
  | 0 => []
  | n + 1 => .int lo :: upto (lo + 1) n
def uptoC (lo c : Int) : Nat → List D
  | 0 => []
  | n + 1 => .int lo :: uptoC (lo + c) c n
/-- how many turns from i by c below (above) j -/
def turns (i j c : Int) : Nat := (if c > 0 then (if i < j then (j - i - 1) / c + 1 else 0) else (if i > j then (i - j - 1) / (-c) + 1 else 0)).toNat
def rngD : List D → Option (List D)
  | [.int j] => if -1000000 ≤ j ∧ j ≤ 1000000 then some (upto 0 j.toNat) else none
  | [.int i, .int j] => if -1000000 ≤ i ∧ i ≤ 1000000 ∧ -1000000 ≤ j ∧ j ≤ 1000000 ∧ (j - i).toNat ≤ 1000000 then some (upto i (j - i).toNat) else none
  | [.int i, .int j, .int c] => if -1000000 ≤ i ∧ i ≤ 1000000 ∧ -1000000 ≤ j ∧ j ≤ 1000000 ∧ c ≠ 0 ∧ -1000 ≤ c ∧ c ≤ 1000 ∧ turns i j c ≤ 1000000 then some (uptoC i c (turns i j c)) else none
  | _ => none
def collect (f : D → Res (Option D)) : List D → Res (List D)
  | [] => .ok []
  | d :: ds => (f d).bind fun o => (collect f ds).bind fun r => match o with
    | some y => .ok (y :: r)
    | none => .ok r
/-- a comprehension's elements do not raise -/
def calm {α : Type} : Res α → Res α
  | .ok a => .ok a
  | _ => .no
/-- every second one -/
def evens {α : Type} : List α → List α
  | [] => []
  | [a] => [a]
  | a :: _ :: r => a :: evens r
/-- t[::-1], t[lo:hi:2] -/
def slsD (d : D) (lo hi : Option Int) (st : Int) : Option D :=
  if st = -1 ∧ lo = none ∧ hi = none then match d with
    | .list ds => some (.list ds.reverse)
    | .tuple ds => some (.tuple ds.reverse)
    | .str z => some (.str ⟨z.cps.toList.reverse.toArray⟩)
    | .dict [(.list ds, .none)] => if ds.length ≤ 1000000 then some (.list ds.reverse) else none
    | _ => none
  else if st = 2 then match d with
    | .tuple ds => some (.tuple (evens (cutD ds lo hi)))
    | _ => none
  else none

/-! one's own dict, its keys tuples of numbers and texts -/
def keyL : List D → Option (List Key)
  | [] => some []
  | .int i :: ds => (keyL ds).map (Sum.inl i :: ·)
  | .str x :: ds => (keyL ds).map (Sum.inr x :: ·)
  | _ => none
def getK (kvs : List (List Key × D)) (k : List Key) : Option D := (kvs.find? fun kv => decide (kv.1 = k)).map (·.2)
def putD (kvs : List (List Key × D)) (k : List Key) (d : D) : List (List Key × D) :=
  if (kvs.any fun kv => decide (kv.1 = k)) = true then kvs.map (fun kv => if kv.1 = k then (kv.1, d) else kv) else kvs ++ [(k, d)]
/-- text.replace(c, y) -/
def rplD (x c y : Str) : Option D := gd ((c == y) = false ∧ x.length + (x.length + 1) * y.length ≤ 1000000) (.str (Txt.replace x c y))
section
variable (P : Pt) (cl : Nat → List D → Res D)
mutual
def evE (ρ : List Sl) : Ex → Res D
  | .var i => match ρ[i]? with | some (.val d) => .ok d | _ => .no
  | .pk i => match ρ[i]? with | some (.own ds) => .ok (.list ds) | _ => .no
  | .con i => match P.con i with | some c => .ok c.2 | none => .no
  | .fn i => match P.fn i with | some f => .ok (fnD f.name) | none => .no
  | .ty k => .ok (tyD k)
  | .int i => .ok (.int i)
  | .str s => .ok (.str s)
  | .bl b => .ok (.bool b)
  | .non => .ok .none
  | .tup es => (evL ρ es).bind fun ds => .ok (.tuple ds)
  | .lst es => (evL ρ es).bind fun ds => .ok (.list ds)
  | .bin op a b => (evE ρ a).bind fun x => (evE ρ b).bind fun y => .ofO (bop op x y)
  | .neg a => (evE ρ a).bind fun x => (asInt x).bind fun i => .ok (.int (-i))
  | .not a => (evE ρ a).bind fun x => (Res.ofO (truth x)).bind fun k => .ok (.bool (!k))
  | .and a b => (evE ρ a).bind fun x => (Res.ofO (truth x)).bind fun k => match k with | true => evE ρ b | false => .ok x
  | .or a b => (evE ρ a).bind fun x => (Res.ofO (truth x)).bind fun k => match k with | true => .ok x | false => evE ρ b
  | .one a => evE ρ a
  | .cmp op a b => (evE ρ a).bind fun x => (evE ρ b).bind fun y => .ofO (cop op x y)
  | .chn o1 o2 a b c => (evE ρ a).bind fun x => (evE ρ b).bind fun y => (Res.ofO (cop o1 x y)).bind fun r => (asBool r).bind fun k => match k with
    | true => (evE ρ c).bind fun z => .ofO (cop o2 y z)
    | false => .ok (.bool false)
  | .ite c a b => (evE ρ c).bind fun x => (Res.ofO (truth x)).bind fun k => match k with | true => evE ρ a | false => evE ρ b
  | .sub a i => (evE ρ a).bind fun x => (evE ρ i).bind fun y => .ofO (ixD x y)
  | .sl a lo hi => (evE ρ a).bind fun x => (evO ρ lo).bind fun l => (evO ρ hi).bind fun h => .ofO (slD x l h)
  | .sls a lo hi st => (evE ρ a).bind fun x => (evO ρ lo).bind fun l => (evO ρ hi).bind fun h => .ofO (slsD x l h st)
  | .call f as => (evL ρ as).bind fun ds => cl f ds
  | .callv i js as => match ρ[i]? with
    | some (.val (.dict [(.str x, .none)])) => match js.find? (fun j => decide ((P.fn j).map (·.name) = some x)) with | some j => (evL ρ as).bind fun ds => cl j ds | none => .no
    | _ => .no
  | .bc f as => (evL ρ as).bind fun ds => .ofO (bfn f ds)
  | .mt m o as => (evE ρ o).bind fun x => match rcv m x with
    | true => (evL ρ as).bind fun ds => .ofO (mtd m x ds)
    | false => .no
  | .lc t s c e => (evR ρ s).bind fun items => (collect (fun d => match bindT (wipeR ρ t.slots) t d with
      | some ρ' => (calm (evC ρ' c)).bind fun k => match k with
        | true => (calm (evE ρ' e)).bind fun y => .ok (some y)
        | false => .ok none
      | none => .no) items).bind fun ds => .ok (.list ds)
  | .lrng as => (evL ρ as).bind fun ds => (Res.ofO (rngD ds)).bind fun r => .ok (.list r)
  | .inr a n => (evE ρ a).bind fun x => (evE ρ n).bind fun y => (asInt x).bind fun i => (asInt y).bind fun j => .ok (.bool (decide (0 ≤ i ∧ i < j)))
  | .getd i ks => match ρ[i]? with
    | some (.dic kvs) => (evL ρ ks).bind fun ds => .ofO ((keyL ds).bind (getK kvs))
    | _ => .no
  | .repl i c j => match ρ[i]? with
    | some (.val (.str x)) => (match ρ[j]? with | some (.val (.str y)) => .ofO (rplD x c y) | _ => .no)
    | _ => .no
  | .lack f l c r => (evE ρ l).bind fun x => (Res.ofO (bAdd x (.str c))).bind fun y => (evE ρ r).bind fun z => (Res.ofO (bAdd y z)).bind fun d => cl f [d]
  | .lackc f c => cl f [.str c]
def evL (ρ : List Sl) : Exs → Res (List D)
  | .nil => .ok []
  | .cons e es => (evE ρ e).bind fun d => (evL ρ es).bind fun ds => .ok (d :: ds)
def evO (ρ : List Sl) : Ox → Res (Option Int)
  | .no => .ok none
  | .some e => (evE ρ e).bind fun d => (asInt d).bind fun i => .ok (some i)
def evC (ρ : List Sl) : Oc → Res Bool
  | .no => .ok true
  | .some e => (evE ρ e).bind fun d => .ofO (truth d)
def evR (ρ : List Sl) : Sr → Res (List D)
  | .it e => (evE ρ e).bind fun d => .ofO (itemsOf d)
  | .rng as => (evL ρ as).bind fun ds => .ofO (rngD ds)
  | .enum e => (evE ρ e).bind fun d => (Res.ofO (itemsOf d)).bind fun ds => .ok (enumD 0 ds)
  | .zip a b => (evE ρ a).bind fun x => (evE ρ b).bind fun y => (Res.ofO (itemsOf x)).bind fun ds => (Res.ofO (itemsOf y)).bind fun es => .ok (zipD ds es)
end

/-! statements -/
inductive Out where
  | nx (ρ : List Sl) | ret (d : D) | ex (c : Nat) (ρ : List Sl) | no
def Out.bind : Out → (List Sl → Out) → Out
  | .nx ρ, f => f ρ
  | .ret d, _ => .ret d
  | .ex c ρ, _ => .ex c ρ
  | .no, _ => .no
/-- an expression's end as a statement's -/
def Out.of {α : Type} (ρ : List Sl) (r : Res α) (f : α → Out) : Out := match r with
  | .ok a => f a
  | .ex c => .ex c ρ
  | .no => .no
def parGo : List Sl → List (Nat × Bool) → List D → Option (List Sl)
  | ρ, [], [] => some ρ
  | ρ, (i, false) :: ts, d :: ds => parGo (ρ.set i (.val d)) ts ds
  | ρ, (i, true) :: ts, .list l :: ds => parGo (ρ.set i (.own l)) ts ds
  | _, _, _ => none
def forGo (f : List Sl → D → Out) : List D → List Sl → Out
  | [], ρ => .nx ρ
  | d :: ds, ρ => (f ρ d).bind fun ρ' => forGo f ds ρ'
def whlGo (c : List Sl → Res Bool) (f : List Sl → Out) : Nat → List Sl → Out
  | 0, _ => .no
  | n + 1, ρ => Out.of ρ (c ρ) fun k => match k with
    | true => (f ρ).bind fun ρ' => whlGo c f n ρ'
    | false => .nx ρ
mutual
def evS (ρ : List Sl) : Sx → Out
  | .ex x => .of ρ (evE P cl ρ x) fun _ => .nx ρ
  | .set i x => .of ρ (evE P cl ρ x) fun d => .nx (ρ.set i (.val d))
  | .own i x => .of ρ (evE P cl ρ x) fun d => match d with | .list ds => .nx (ρ.set i (.own ds)) | _ => .no
  | .par ts xs => .of ρ (evL P cl ρ xs) fun ds => match parGo ρ ts ds with | some ρ' => .nx ρ' | none => .no
  | .unp is x => .of ρ (evE P cl ρ x) fun d => match bindT ρ (.tup is) d with | some ρ' => .nx ρ' | none => .no
  | .app i x => match ρ[i]? with
    | some (.own ds) => .of ρ (evE P cl ρ x) fun d => if ds.length + 1 ≤ 1000000 then .nx (ρ.set i (.own (ds ++ [d]))) else .no
    | _ => .no
  | .ext i x => match ρ[i]? with
    | some (.own ds) => .of ρ (evE P cl ρ x) fun d => match d with
      | .list es => if ds.length + es.length ≤ 1000000 then .nx (ρ.set i (.own (ds ++ es))) else .no
      | _ => .no
    | _ => .no
  | .seti i k x => .of ρ (evE P cl ρ x) fun d => match ρ[i]? with
    | some (.own ds) => .of ρ (evE P cl ρ k) fun z => match z with
      | .int j => (match ixN ds.length j with
        | some n => .nx (ρ.set i (.own (ds.set n d)))
        | none => .no)
      | _ => .no
    | _ => .no
  | .ret x => .of ρ (evE P cl ρ x) fun d => .ret d
  | .ite c a b => .of ρ ((evE P cl ρ c).bind fun d => .ofO (truth d)) fun k => match k with | true => evSs ρ a | false => evSs ρ b
  | .for_ t s b => .of ρ (evR P cl ρ s) fun items => forGo (fun ρ d => match bindT ρ t d with | some ρ' => evSs ρ' b | none => .no) items ρ
  | .whl c b => whlGo (fun ρ => (evE P cl ρ c).bind fun d => .ofO (truth d)) (fun ρ => evSs ρ b) 100000 ρ
  | .raise c => .ex c ρ
  | .tryo b c h => match evSs ρ b with
    | .ex e ρ' => if subE e c = true then evSs ρ' h else .ex e ρ'
    | o => o
  | .try2 b c h c2 h2 => match evSs ρ b with
    | .ex e ρ' => if subE e c = true then evSs ρ' h else if subE e c2 = true then evSs ρ' h2 else .ex e ρ'
    | o => o
  | .tryw b c _ => match evSs ρ b with
    | .ex e ρ' => if subE e c = true then .ret (.str (wordOf e)) else .ex e ρ'
    | o => o
  | .tryi b c _ d => match evSs ρ b with
    | .ex e ρ' => if subE e c = true then .ret (.bool (subE e d)) else .ex e ρ'
    | o => o
  | .pass => .nx ρ
  | .frz i => match ρ[i]? with | some (.own ds) => .nx (ρ.set i (.val (.list ds))) | _ => .no
  | .newd i => .nx (ρ.set i (.dic []))
  | .setd i ks x => .of ρ (evE P cl ρ x) fun d => match ρ[i]? with
    | some (.dic kvs) => .of ρ (evL P cl ρ ks) fun ds => match keyL ds with
      | some k => if kvs.length + 1 ≤ 1000000 then .nx (ρ.set i (.dic (putD kvs k d))) else .no
      | none => .no
    | _ => .no
def evSs (ρ : List Sl) : Sxs → Out
  | .nil => .nx ρ
  | .cons s r => (evS ρ s).bind fun ρ' => evSs ρ' r
end
end

/-- a def's run -/
def runF (P : Pt) (cl : Nat → List D → Res D) (f : Fd) (ds : List D) : Res D :=
  if ds.length = f.par ∧ f.par ≤ f.N.length then
    match evSs P cl (ds.map .val ++ List.replicate (f.N.length - ds.length) .no) f.body with
    | .nx _ => .ok .none
    | .ret d => .ok d
    | .ex c _ => .ex c
    | .no => .no
  else .no
def callD (P : Pt) : Nat → Nat → List D → Res D
  | 0, _, _ => .no
  | n + 1, f, ds => match P.fn f with
    | some fd => runF P (callD P n) fd ds
    | none => .no
end Bg

set_option Elab.async false
set_option linter.all false
set_option maxRecDepth 100000
set_option maxHeartbeats 4000000
/-! How slots and heaps bear the evaluator's state; the readings of expressions. -/
namespace Bg
open PySem PySem.Spec L2

/-- the program, its exceptions' classes, its defs' values -/
structure Lg where
  U : Pt
  P : Pt
  cl : Nat → List D → Res D
  ec : Nat → Addr

inductive RpK (K : PySem.W.Frag) (mg : Str → Option Value) (G : Hp) : List (List Key × V) → List (List Key × D) → Prop
  | nil : RpK K mg G [] []
  | cons {k : List Key} {v : V} {d : D} {ws : List (List Key × V)} {kvs : List (List Key × D)} : Rp K mg G v d → RpK K mg G ws kvs → RpK K mg G ((k, v) :: ws) ((k, d) :: kvs)
section
variable {K : PySem.W.Frag} {mg : Str → Option Value} {G G' : Hp}
theorem RpK.mono (e : Same G G') : ∀ {ws : List (List Key × V)} {kvs : List (List Key × D)}, RpK K mg G ws kvs → RpK K mg G' ws kvs
  | _, _, .nil => .nil
  | _, _, .cons h t => .cons (Rp.mono e _ _ h) (RpK.mono e t)
theorem RpK.length : ∀ {ws : List (List Key × V)} {kvs : List (List Key × D)}, RpK K mg G ws kvs → ws.length = kvs.length
  | _, _, .nil => rfl
  | _, _, .cons _ t => by rw [List.length_cons, List.length_cons, RpK.length t]
theorem RpK.get {k : List Key} {d : D} : ∀ {ws : List (List Key × V)} {kvs : List (List Key × D)}, RpK K mg G ws kvs → getK kvs k = some d → ∃ v, valV ws k = some v ∧ Rp K mg G v d
  | _, _, .nil, h => by cases h
  | _, _, .cons (k := k') h t, e => by
    unfold getK at e
    unfold valV
    rw [List.find?_cons] at e ⊢
    by_cases q : k' = k
    · simp only [q, decide_true] at e ⊢
      cases e
      exact ⟨_, rfl, h⟩
    · simp only [q, decide_false] at e ⊢
      exact RpK.get t e
theorem RpK.any {k : List Key} : ∀ {ws : List (List Key × V)} {kvs : List (List Key × D)}, RpK K mg G ws kvs → (ws.any fun kv => decide (kv.1 = k)) = (kvs.any fun kv => decide (kv.1 = k))
  | _, _, .nil => rfl
  | _, _, .cons _ t => by rw [List.any_cons, List.any_cons, RpK.any t]
theorem RpK.repl {k : List Key} {v : V} {d : D} (r : Rp K mg G v d) : ∀ {ws : List (List Key × V)} {kvs : List (List Key × D)}, RpK K mg G ws kvs → RpK K mg G (ws.map fun kv => if kv.1 = k then (kv.1, v) else kv) (kvs.map fun kv => if kv.1 = k then (kv.1, d) else kv)
  | _, _, .nil => .nil
  | _, _, .cons (k := k') h t => by
    rw [List.map_cons, List.map_cons]
    by_cases q : k' = k
    · simp only [q, if_true]
      exact .cons r (RpK.repl r t)
    · simp only [q, if_false]
      exact .cons h (RpK.repl r t)
theorem RpK.snoc {k : List Key} {v : V} {d : D} (r : Rp K mg G v d) : ∀ {ws : List (List Key × V)} {kvs : List (List Key × D)}, RpK K mg G ws kvs → RpK K mg G (ws ++ [(k, v)]) (kvs ++ [(k, d)])
  | _, _, .nil => .cons r .nil
  | _, _, .cons h t => .cons h (RpK.snoc r t)
theorem RpK.put {k : List Key} {v : V} {d : D} (r : Rp K mg G v d) {ws : List (List Key × V)} {kvs : List (List Key × D)} (h : RpK K mg G ws kvs) : RpK K mg G (putK ws k v) (putD kvs k d) := by
  unfold putK putD
  rw [h.any]
  split
  · exact h.repl r
  · exact h.snoc r
theorem putD_len (kvs : List (List Key × D)) (k : List Key) (d : D) : (putD kvs k d).length ≤ kvs.length + 1 := by
  unfold putD
  split
  · rw [List.length_map]; omega
  · rw [List.length_append]; simp
/-- the values of a key -/
theorem keyL_ok : ∀ {ds : List D} {vs : List V} {k : List Key}, RpA K mg G vs ds → keyL ds = some k → vs = k.map kV
  | [], _, _, .nil, e => by cases e; rfl
  | .int i :: ds, _, k, .cons h t, e => by
    simp only [keyL, Option.map_eq_some_iff] at e
    obtain ⟨k', e1, rfl⟩ := e
    cases h
    rw [keyL_ok t e1]
    rfl
  | .str i :: ds, _, k, .cons h t, e => by
    simp only [keyL, Option.map_eq_some_iff] at e
    obtain ⟨k', e1, rfl⟩ := e
    cases h
    rw [keyL_ok t e1]
    rfl
  | .none :: _, _, _, _, e => by cases e
  | .bool _ :: _, _, _, _, e => by cases e
  | .list _ :: _, _, _, _, e => by cases e
  | .tuple _ :: _, _, _, _, e => by cases e
  | .dict _ :: _, _, _, _, e => by cases e
end
structure Ok (K : PySem.W.Frag) (mg : Str → Option Value) (H0 G0 : Hp) (ρ : List Sl) (σ : L2.St) (H G : Hp) : Prop where
  len : ρ.length = σ.length
  base : Gr H0 G0 H G
  val : ∀ (i : Nat) (d : D), ρ[i]? = some (Sl.val d) → ∃ v, σ[i]? = some (some v) ∧ Rp K mg G v d
  own : ∀ (i : Nat) (ds : List D), ρ[i]? = some (Sl.own ds) → ∃ a xs, σ[i]? = some (some (.ref a)) ∧ H a = some (.lst xs) ∧ G a = none ∧ H0 a = none ∧ ds.length ≤ 1000000 ∧ RpA K mg G xs ds
  dis : ∀ (i j : Nat) (ds es : List D) (a : Addr), ρ[i]? = some (Sl.own ds) → ρ[j]? = some (Sl.own es) → σ[i]? = some (some (.ref a)) → σ[j]? = some (some (.ref a)) → i = j
  dic : ∀ (i : Nat) (kvs : List (List Key × D)), ρ[i]? = some (Sl.dic kvs) → ∃ a ws, σ[i]? = some (some (.ref a)) ∧ H a = some (.dT ws) ∧ G a = none ∧ H0 a = none ∧ kvs.length ≤ 1000000 ∧ RpK K mg G ws kvs
  ddis : ∀ (i j : Nat) (ds es : List (List Key × D)) (a : Addr), ρ[i]? = some (Sl.dic ds) → ρ[j]? = some (Sl.dic es) → σ[i]? = some (some (.ref a)) → σ[j]? = some (some (.ref a)) → i = j
section
variable {K : PySem.W.Frag} {mg : Str → Option Value} {H0 G0 H G H' G' : Hp} {ρ : List Sl} {σ : L2.St}
theorem Ok.same (o : Ok K mg H0 G0 ρ σ H G) : Same G H := o.base.s
theorem Ok.grow (o : Ok K mg H0 G0 ρ σ H G) (g : Gr H G H' G') : Ok K mg H0 G0 ρ σ H' G' where
  len := o.len
  base := o.base.trans g
  val := fun i d h => let ⟨v, h1, h2⟩ := o.val i d h; ⟨v, h1, Rp.mono g.g d v h2⟩
  own := fun i ds h => let ⟨a, xs, h1, h2, h3, h4, h5, h6⟩ := o.own i ds h; ⟨a, xs, h1, g.h _ _ h2, g.f a h3 (by rw [h2]; exact fun z => by cases z), h4, h5, RpA.mono g.g _ _ h6⟩
  dis := o.dis
  dic := fun i kvs h => let ⟨a, xs, h1, h2, h3, h4, h5, h6⟩ := o.dic i kvs h; ⟨a, xs, h1, g.h _ _ h2, g.f a h3 (by rw [h2]; exact fun z => by cases z), h4, h5, RpK.mono g.g h6⟩
  ddis := o.ddis
theorem get_set {α : Type} {l : List α} {i j : Nat} {x y : α} (h : (l.set i x)[j]? = some y) : (j = i ∧ y = x) ∨ (j ≠ i ∧ l[j]? = some y) := by
  by_cases e : i = j
  · subst e
    by_cases hl : i < l.length
    · rw [List.getElem?_set_self hl] at h
      exact .inl ⟨rfl, (Option.some.inj h).symm⟩
    · rw [List.getElem?_eq_none (by rw [List.length_set]; omega)] at h
      cases h
  · rw [List.getElem?_set_ne e] at h
    exact .inr ⟨fun z => e z.symm, h⟩
theorem Ok.set (o : Ok K mg H0 G0 ρ σ H G) (i : Nat) {v : V} {d : D} (h : Rp K mg G v d) : Ok K mg H0 G0 (ρ.set i (.val d)) (σ.set i (some v)) H G where
  len := by rw [List.length_set, List.length_set, o.len]
  base := o.base
  val := fun j e hj => by
    rcases get_set hj with ⟨rfl, q⟩ | ⟨ne, q⟩
    · cases q
      have hl : j < σ.length := by
        have := (List.getElem?_eq_some_iff.mp hj).1
        rw [List.length_set] at this
        rw [← o.len]
        exact this
      exact ⟨v, List.getElem?_set_self hl, h⟩
    · rw [List.getElem?_set_ne (fun z => ne z.symm)]
      exact o.val j e q
  own := fun j ds hj => by
    rcases get_set hj with ⟨rfl, q⟩ | ⟨ne, q⟩
    · cases q
    · rw [List.getElem?_set_ne (fun z => ne z.symm)]
      exact o.own j ds q
  dis := fun j k ds es a h1 h2 h3 h4 => by
    rcases get_set h1 with ⟨rfl, q⟩ | ⟨ne, q⟩
    · cases q
    rcases get_set h2 with ⟨rfl, q2⟩ | ⟨ne2, q2⟩
    · cases q2
    rw [List.getElem?_set_ne (fun z => ne z.symm)] at h3
    rw [List.getElem?_set_ne (fun z => ne2 z.symm)] at h4
    exact o.dis j k ds es a q q2 h3 h4
  dic := fun j kvs hj => by
    rcases get_set hj with ⟨rfl, q⟩ | ⟨ne, q⟩
    · cases q
    · rw [List.getElem?_set_ne (fun z => ne z.symm)]
      exact o.dic j kvs q
  ddis := fun j k ds es a h1 h2 h3 h4 => by
    rcases get_set h1 with ⟨rfl, q⟩ | ⟨ne, q⟩
    · cases q
    rcases get_set h2 with ⟨rfl, q2⟩ | ⟨ne2, q2⟩
    · cases q2
    rw [List.getElem?_set_ne (fun z => ne z.symm)] at h3
    rw [List.getElem?_set_ne (fun z => ne2 z.symm)] at h4
    exact o.ddis j k ds es a q q2 h3 h4
theorem Ok.wipe1 (o : Ok K mg H0 G0 ρ σ H G) (i : Nat) (x : Option V) : Ok K mg H0 G0 (ρ.set i .no) (σ.set i x) H G where
  len := by rw [List.length_set, List.length_set, o.len]
  base := o.base
  val := fun j e hj => by
    rcases get_set hj with ⟨rfl, q⟩ | ⟨ne, q⟩
    · cases q
    · rw [List.getElem?_set_ne (fun z => ne z.symm)]
      exact o.val j e q
  own := fun j ds hj => by
    rcases get_set hj with ⟨rfl, q⟩ | ⟨ne, q⟩
    · cases q
    · rw [List.getElem?_set_ne (fun z => ne z.symm)]
      exact o.own j ds q
  dis := fun j k ds es a h1 h2 h3 h4 => by
    rcases get_set h1 with ⟨rfl, q⟩ | ⟨ne, q⟩
    · cases q
    rcases get_set h2 with ⟨rfl, q2⟩ | ⟨ne2, q2⟩
    · cases q2
    rw [List.getElem?_set_ne (fun z => ne z.symm)] at h3
    rw [List.getElem?_set_ne (fun z => ne2 z.symm)] at h4
    exact o.dis j k ds es a q q2 h3 h4
  dic := fun j kvs hj => by
    rcases get_set hj with ⟨rfl, q⟩ | ⟨ne, q⟩
    · cases q
    · rw [List.getElem?_set_ne (fun z => ne z.symm)]
      exact o.dic j kvs q
  ddis := fun j k ds es a h1 h2 h3 h4 => by
    rcases get_set h1 with ⟨rfl, q⟩ | ⟨ne, q⟩
    · cases q
    rcases get_set h2 with ⟨rfl, q2⟩ | ⟨ne2, q2⟩
    · cases q2
    rw [List.getElem?_set_ne (fun z => ne z.symm)] at h3
    rw [List.getElem?_set_ne (fun z => ne2 z.symm)] at h4
    exact o.ddis j k ds es a q q2 h3 h4
theorem Ok.wipe (o : Ok K mg H0 G0 ρ σ H G) : ∀ vs : List Nat, Ok K mg H0 G0 (wipeR ρ vs) (L2.wipe σ vs) H G
  | [] => o
  | v :: vs => (Ok.wipe o vs).wipe1 v none
end

/-! ### what is wanted behind an evaluation -/
section
variable (K : PySem.W.Frag) (mg : Str → Option Value) (L : Lg) (W : WX)
def Wn (σ : L2.St) (H G : Hp) (st : Bool) (r : Res D) (Q : VK) : Prop := match r with
  | .ok d => ∀ v H' G', Gr H G H' G' → Rx st K mg G' H' v d → Q v H'
  | .ex c => ∀ H' G', Gr H G H' G' → W (.ref (L.ec c)) none σ H'
  | .no => False
def TEx (x : Ex) : TE := fun σ H Q => ∃ H0 G0 ρ G, Ok K mg H0 G0 ρ σ H G ∧ Wn K mg L W σ H G x.st (evE L.U L.cl ρ x) Q
def WnB (σ : L2.St) (H G : Hp) (r : Res Bool) (Q : Bool → Hp → Prop) : Prop := match r with
  | .ok b => ∀ H' G', Gr H G H' G' → Q b H'
  | .ex c => ∀ H' G', Gr H G H' G' → W (.ref (L.ec c)) none σ H'
  | .no => False
def TTx (x : Ex) : TT := fun σ H Q => ∃ H0 G0 ρ G, Ok K mg H0 G0 ρ σ H G ∧ WnB L W σ H G ((evE L.U L.cl ρ x).bind fun d => .ofO (truth d)) Q
def WnL (σ : L2.St) (H G : Hp) (st : Bool) (r : Res (List D)) (Q : List V → Hp → Prop) : Prop := match r with
  | .ok ds => ∀ vs H' G', Gr H G H' G' → RsA K mg G' H' vs ds → (st = true → RpA K mg G' vs ds) → Q vs H'
  | .ex c => ∀ H' G', Gr H G H' G' → W (.ref (L.ec c)) none σ H'
  | .no => False
def TAx (x : Exs) : TA := fun σ H Q => ∃ H0 G0 ρ G, Ok K mg H0 G0 ρ σ H G ∧ WnL K mg L W σ H G x.allSt (evL L.U L.cl ρ x) Q
def WnO (σ : L2.St) (H G : Hp) (r : Res (Option Int)) (Q : Option Int → Hp → Prop) : Prop := match r with
  | .ok b => ∀ H' G', Gr H G H' G' → Q b H'
  | .ex c => ∀ H' G', Gr H G H' G' → W (.ref (L.ec c)) none σ H'
  | .no => False
def TOx (x : Ox) : TO := fun σ H Q => ∃ H0 G0 ρ G, Ok K mg H0 G0 ρ σ H G ∧ WnO L W σ H G (evO L.U L.cl ρ x) Q
/-- a walk yields the data ds, while the ghost G stands -/
structure Src (J : It) (G : Hp) (ds : List D) : Prop where
  go : ∀ i H, i < ds.length → Same G H → J.go i H
  stop : ∀ H, Same G H → J.stop ds.length H
  yld : ∀ (i : Nat) H x H' G1 d, ds[i]? = some d → Same G G1 → Same G1 H → J.yld i H x H' → ∃ G2, Gr H G1 H' G2 ∧ Rp K mg G2 x d
def WnR (σ : L2.St) (H G : Hp) (r : Res (List D)) (R : It → Hp → Prop) : Prop := match r with
  | .ok ds => ∀ J H' G', Gr H G H' G' → Src K mg J G' ds → ds.length ≤ 1000000 → R J H'
  | .ex c => ∀ H' G', Gr H G H' G' → W (.ref (L.ec c)) none σ H'
  | .no => False
def TRx (x : Sr) : TI := fun σ H R => ∃ H0 G0 ρ G, Ok K mg H0 G0 ρ σ H G ∧ WnR K mg L W σ H G (evR L.U L.cl ρ x) R
end
theorem PE.imp {X : Cx} {e : Expr} {t t' : TE} (h : PE X e t) (i : ∀ σ H Q, t' σ H Q → t σ H Q) : PE X e t' := ⟨fun pins s σ H Q I q => h.run pins s σ H Q I (i σ H Q q)⟩
theorem PT.imp {X : Cx} {e : Expr} {t t' : TT} (h : PT X e t) (i : ∀ σ H Q, t' σ H Q → t σ H Q) : PT X e t' := ⟨fun pins s σ H Q I q => h.run pins s σ H Q I (i σ H Q q)⟩
theorem PW.imp {X : Cx} {e : Expr} {t t' : TT} (h : PW X e t) (i : ∀ σ H Q, t' σ H Q → t σ H Q) : PW X e t' := ⟨fun wh pins s σ H Q I q => h.run wh pins s σ H Q I (i σ H Q q)⟩
theorem PA.imp {X : Cx} {es : List Expr} {t t' : TA} (h : PA X es t) (i : ∀ σ H Q, t' σ H Q → t σ H Q) : PA X es t' := ⟨fun pos pins s σ H Q I q => h.run pos pins s σ H Q I (i σ H Q q)⟩
theorem PO.imp {X : Cx} {e : Option Expr} {t t' : TO} (h : PO X e t) (i : ∀ σ H Q, t' σ H Q → t σ H Q) : PO X e t' := ⟨fun pins s σ H Q I q => h.run pins s σ H Q I (i σ H Q q)⟩
theorem PI.imp {X : Cx} {tg e : Expr} {t t' : TI} (h : PI X tg e t) (i : ∀ σ H R, t' σ H R → t σ H R) : PI X tg e t' := ⟨fun pins s σ H R I q => h.run pins s σ H R I (i σ H R q)⟩
theorem PS.imp {X : Cx} {e : Stmt} {t t' : TS} (h : PS X e t) (i : ∀ D σ H, t' D σ H → t D σ H) : PS X e t' := ⟨fun pins s σ H D I q => h.run pins s σ H D I (i D σ H q)⟩
theorem PSs.imp {X : Cx} {e : List Stmt} {t t' : TS} (h : PSs X e t) (i : ∀ D σ H, t' D σ H → t D σ H) : PSs X e t' := ⟨fun pins s σ H D I q => h.run pins s σ H D I (i D σ H q)⟩

section
variable {K : PySem.W.Frag} {mg : Str → Option Value} {L : Lg} {W : WX} {σ : L2.St} {H0 G0 H G : Hp} {ρ : List Sl}
/-- a part is evaluated; f: what comes behind -/
theorem run_ex {a : Ex} {β : Type} {f : D → Res β} {Q : VK} {B : Res β → Hp → Hp → Prop} (o : Ok K mg H0 G0 ρ σ H G) (h : B ((evE L.U L.cl ρ a).bind f) H G)
    (hex : ∀ c, B (.ex c) H G → ∀ H' G', Gr H G H' G' → W (.ref (L.ec c)) none σ H') (hno : B .no H G → False) (hB : ∀ r H1 G1, Gr H G H1 G1 → B r H G → B r H1 G1)
    (hk : ∀ d v H1 G1, Gr H G H1 G1 → Ok K mg H0 G0 ρ σ H1 G1 → Rx a.st K mg G1 H1 v d → B (f d) H1 G1 → Q v H1) : TEx K mg L W a σ H Q := by
  refine ⟨H0, G0, ρ, G, o, ?_⟩
  unfold Wn
  cases e : evE L.U L.cl ρ a with
  | ok d =>
    rw [e] at h
    exact fun v H' G' g r => hk d v H' G' g (o.grow g) r (hB _ _ _ g h)
  | ex c =>
    rw [e] at h
    exact hex c h
  | no =>
    rw [e] at h
    exact hno h
theorem run_exs {a : Exs} {β : Type} {f : List D → Res β} {Q : List V → Hp → Prop} {B : Res β → Hp → Hp → Prop} (o : Ok K mg H0 G0 ρ σ H G) (h : B ((evL L.U L.cl ρ a).bind f) H G)
    (hex : ∀ c, B (.ex c) H G → ∀ H' G', Gr H G H' G' → W (.ref (L.ec c)) none σ H') (hno : B .no H G → False) (hB : ∀ r H1 G1, Gr H G H1 G1 → B r H G → B r H1 G1)
    (hk : ∀ ds vs H1 G1, Gr H G H1 G1 → Ok K mg H0 G0 ρ σ H1 G1 → RsA K mg G1 H1 vs ds → (a.allSt = true → RpA K mg G1 vs ds) → B (f ds) H1 G1 → Q vs H1) : TAx K mg L W a σ H Q := by
  refine ⟨H0, G0, ρ, G, o, ?_⟩
  unfold WnL
  cases e : evL L.U L.cl ρ a with
  | ok d =>
    rw [e] at h
    exact fun v H' G' g r q => hk d v H' G' g (o.grow g) r q (hB _ _ _ g h)
  | ex c =>
    rw [e] at h
    exact hex c h
  | no =>
    rw [e] at h
    exact hno h
theorem run_ox {a : Ox} {β : Type} {f : Option Int → Res β} {Q : Option Int → Hp → Prop} {B : Res β → Hp → Hp → Prop} (o : Ok K mg H0 G0 ρ σ H G) (h : B ((evO L.U L.cl ρ a).bind f) H G)
    (hex : ∀ c, B (.ex c) H G → ∀ H' G', Gr H G H' G' → W (.ref (L.ec c)) none σ H') (hno : B .no H G → False) (hB : ∀ r H1 G1, Gr H G H1 G1 → B r H G → B r H1 G1)
    (hk : ∀ d H1 G1, Gr H G H1 G1 → Ok K mg H0 G0 ρ σ H1 G1 → B (f d) H1 G1 → Q d H1) : TOx K mg L W a σ H Q := by
  refine ⟨H0, G0, ρ, G, o, ?_⟩
  unfold WnO
  cases e : evO L.U L.cl ρ a with
  | ok d =>
    rw [e] at h
    exact fun H' G' g => hk d H' G' g (o.grow g) (hB _ _ _ g h)
  | ex c =>
    rw [e] at h
    exact hex c h
  | no =>
    rw [e] at h
    exact hno h
theorem run_tx {a : Ex} {β : Type} {f : Bool → Res β} {Q : Bool → Hp → Prop} {B : Res β → Hp → Hp → Prop} (o : Ok K mg H0 G0 ρ σ H G) (h : B (((evE L.U L.cl ρ a).bind fun d => .ofO (truth d)).bind f) H G)
    (hex : ∀ c, B (.ex c) H G → ∀ H' G', Gr H G H' G' → W (.ref (L.ec c)) none σ H') (hno : B .no H G → False) (hB : ∀ r H1 G1, Gr H G H1 G1 → B r H G → B r H1 G1)
    (hk : ∀ d H1 G1, Gr H G H1 G1 → Ok K mg H0 G0 ρ σ H1 G1 → B (f d) H1 G1 → Q d H1) : TTx K mg L W a σ H Q := by
  refine ⟨H0, G0, ρ, G, o, ?_⟩
  unfold WnB
  cases e : ((evE L.U L.cl ρ a).bind fun d => Res.ofO (truth d)) with
  | ok d =>
    rw [e] at h
    exact fun H' G' g => hk d H' G' g (o.grow g) (hB _ _ _ g h)
  | ex c =>
    rw [e] at h
    exact hex c h
  | no =>
    rw [e] at h
    exact hno h
/-- the wanted ends go on with the heaps -/
theorem Wn.grow {st : Bool} {r : Res D} {Q : VK} {H1 G1 : Hp} (g : Gr H G H1 G1) (h : Wn K mg L W σ H G st r Q) : Wn K mg L W σ H1 G1 st r Q := by
  cases r with
  | ok d => exact fun v H' G' g' => h v H' G' (g.trans g')
  | ex c => exact fun H' G' g' => h H' G' (g.trans g')
  | no => exact h
theorem WnL.grow {st : Bool} {r : Res (List D)} {Q : List V → Hp → Prop} {H1 G1 : Hp} (g : Gr H G H1 G1) (h : WnL K mg L W σ H G st r Q) : WnL K mg L W σ H1 G1 st r Q := by
  cases r with
  | ok d => exact fun v H' G' g' => h v H' G' (g.trans g')
  | ex c => exact fun H' G' g' => h H' G' (g.trans g')
  | no => exact h
theorem WnB.grow {r : Res Bool} {Q : Bool → Hp → Prop} {H1 G1 : Hp} (g : Gr H G H1 G1) (h : WnB L W σ H G r Q) : WnB L W σ H1 G1 r Q := by
  cases r with
  | ok d => exact fun H' G' g' => h H' G' (g.trans g')
  | ex c => exact fun H' G' g' => h H' G' (g.trans g')
  | no => exact h
theorem WnO.grow {r : Res (Option Int)} {Q : Option Int → Hp → Prop} {H1 G1 : Hp} (g : Gr H G H1 G1) (h : WnO L W σ H G r Q) : WnO L W σ H1 G1 r Q := by
  cases r with
  | ok d => exact fun H' G' g' => h H' G' (g.trans g')
  | ex c => exact fun H' G' g' => h H' G' (g.trans g')
  | no => exact h
theorem WnR.grow {r : Res (List D)} {R : It → Hp → Prop} {H1 G1 : Hp} (g : Gr H G H1 G1) (h : WnR K mg L W σ H G r R) : WnR K mg L W σ H1 G1 r R := by
  cases r with
  | ok d => exact fun J H' G' g' => h J H' G' (g.trans g')
  | ex c => exact fun H' G' g' => h H' G' (g.trans g')
  | no => exact h
theorem Wn.fin {d : D} {Q : VK} {st : Bool} (h : Wn K mg L W σ H G st (.ok d) Q) : Fin K mg H G Q d := fun v H' G' g r => h v H' G' g (by
  cases st with
  | true => exact r
  | false => exact .inl r)
end
end Bg

set_option Elab.async false
set_option linter.all false
set_option maxRecDepth 100000
set_option maxHeartbeats 4000000
/-! Each expression's rule: from the parts' readings to the whole's. -/
namespace Bg
open PySem PySem.Spec L2

/-- a def's promise: it gives what the evaluator gives -/
def spD (K : PySem.W.Frag) (mg : Str → Option Value) (L : Lg) (n f : Nat) : Sp := fun vs H Q E => vs.length = n ∧ ∃ G ds, Same G H ∧ RpA K mg G vs ds ∧ match L.cl f ds with
  | .ok d => Fin K mg H G Q d
  | .ex c => ∀ H' G', Gr H G H' G' → E (.ref (L.ec c)) none H'
  | .no => False
def bltNames : List Str := ["len", "sum", "all", "tuple", "list", "int", "str", "abs", "max", "min", "sorted", "isinstance", "range", "enumerate", "zip", "bool", "ValueError"]
/-- a def's promise where some object has been made already -/
structure FnT (P : Program) (w : World) (K : PySem.W.Frag) (mg : Str → Option Value) (base : Heap) (CX : CXT) (k : Nat) (f : Addr) (fd : FuncData) (ps : List Str) (sp : Sp) : Prop where
  len : ∀ vs H Q E, sp vs H Q E → vs.length = ps.length
  run : ∀ (A : Around) (outer : List Env) (s : Shared) (H : Hp) (args : Args) (us : List Value) (vs : List V) (Q : VK) (E : XK), 1 ≤ s.toks → Room k A → Env0 P w K mg base A outer s H → BindsTo s fd args (ps.zip us) → Vals vs us → sp vs H Q E →
    codeAny (model P w) A (.call (.ref f) args) (CR CX outer P w H s Q E) s
structure Ctx (L : Lg) (k : Nat) (N : List Str) (sc : Scope) (fl : Str → Bool) (W : WX) (X : Cx) : Prop where
  hN : X.N = N
  nd : N.Nodup
  calm : X.calm = true
  room : Room k X.A
  hsc : X.env.scope = sc
  kind : sc.kind = .function
  fn : ∀ x, fl x = true → X.fn x = true ∨ X.env.scope.names.lookup x = some .local
  takes : Takes X W
  subC : ∀ i c, L.P.con i = some c → L.U.con i = some c
  subF : ∀ i c, L.P.fn i = some c → L.U.fn i = some c
  fns : ∀ (f : Nat) fd, L.P.fn f = some fd → ∃ a data, X.mg fd.name = some (.ref a) ∧ PySem.W.keepIn X.K (.ref a) = true ∧ Binds X.K data (fd.N.take fd.par) [] ∧ FnOk X.prog X.w X.K X.mg X.base (L2.CX X.prog X.w) k a data (fd.N.take fd.par) (spD X.K X.mg L fd.par f)
  fnT : ∀ (f : Nat) fd st, (f, fd, st) ∈ L.P.tw → ∃ a data, X.mg fd.name = some (.ref a) ∧ PySem.W.keepIn X.K (.ref a) = true ∧ Binds X.K data (fd.N.take fd.par) [] ∧ fd.par = 1 ∧ FnT X.prog X.w X.K X.mg X.base (L2.CX X.prog X.w) k a data (fd.N.take fd.par) (spD X.K X.mg L fd.par f)
  con : ∀ (i : Nat) c, L.P.con i = some c → ∃ v u, X.mg c.1 = some u ∧ RelV v u ∧ Rp X.K X.mg (fun _ => none) v c.2
  blt : ∀ x ∈ bltNames, X.mg x = none
  tpc : ∀ (i : Nat) c a, L.P.con i = some c → (∃ ds, c.2 = .tuple ds) → X.mg c.1 = some (.ref a) → ∃ o, X.K.lookup a = some o ∧ o.cls = .type "tuple" ∧ o.dict = none
def dbg (x : Str) : Bool := (x == ("__debug__" : Str)) || (x == ("__classdict__" : Str)) || (x == ("__name__" : Str))
def visB (sc : Scope) (x : Str) : Bool := match sc.names.lookup x with
  | some .local => true
  | some .cell => true
  | some .free => true
  | _ => false
def locB (sc : Scope) (x : Str) : Bool := match sc.names.lookup x with
  | some .local => true
  | some .cell => true
  | _ => false
def glB (sc : Scope) (x : Str) : Bool := match sc.names.lookup x with
  | some .globalImplicit => true
  | _ => false
theorem dbg_ok {x : Str} (h : dbg x = false) : (x == ("__debug__" : Str)) = false ∧ (x == ("__classdict__" : Str)) = false ∧ x ≠ ("__name__" : Str) := by
  unfold dbg at h
  simp only [Bool.or_eq_false_iff] at h
  exact ⟨h.1.1, h.1.2, fun z => by have := h.2; rw [z] at this; simp at this⟩
section
variable {L : Lg} {k : Nat} {N : List Str} {sc : Scope} {fl : Str → Bool} {W : WX} {X : Cx}
theorem Ctx.units (c : Ctx L k N sc fl W X) : X.A.units + 100 < cLine := by have := c.room.un; omega
theorem Ctx.vis (c : Ctx L k N sc fl W X) {x : Str} (h : visB sc x = true) : Vis X.env.scope x := by
  rw [c.hsc]
  unfold visB at h
  unfold Vis
  split at h
  · rename_i e; exact .inl e
  · rename_i e; exact .inr (.inl e)
  · rename_i e; exact .inr (.inr e)
  · cases h
theorem Ctx.loc (c : Ctx L k N sc fl W X) {x : Str} (h : locB sc x = true) : L2.Loc X.env.scope x := by
  rw [c.hsc]
  unfold locB at h
  unfold L2.Loc
  split at h
  · rename_i e; exact .inl e
  · rename_i e; exact .inr e
  · cases h
theorem Ctx.gl (c : Ctx L k N sc fl W X) {x : Str} (h : glB sc x = true) : Gl X x := by
  unfold Gl
  show X.env.scope.names.lookup x = _
  rw [c.hsc]
  unfold glB at h
  split at h
  · rename_i e; exact e
  · cases h

/-! ### names and constants -/
theorem s_var (c : Ctx L k N sc fl W X) {i : Nat} {x : Str} {pos : Pos} (h1 : N[i]? = some x) (h2 : visB sc x = true) (h3 : dbg x = false) : PE X (.Name x pos) (TEx X.K X.mg L W (.var i)) := by
  obtain ⟨d1, d2, _⟩ := dbg_ok h3
  refine PE.imp (pe_var (i := i) (by rw [c.hN]; exact h1) (c.vis h2) d1 d2) fun σ H Q h => ?_
  obtain ⟨H0, G0, ρ, G, o, h⟩ := h
  cases e : ρ[i]? with
  | none => simp only [evE, e] at h; exact h.elim
  | some s =>
    cases s with
    | val d =>
      simp only [evE, e] at h
      obtain ⟨v, h1, h2⟩ := o.val i d e
      exact ⟨v, h1, h v H G (Gr.refl o.same) h2⟩
    | no => simp only [evE, e] at h; exact h.elim
    | dic _ => simp only [evE, e] at h; exact h.elim
    | own ds => simp only [evE, e] at h; exact h.elim
theorem s_pk (c : Ctx L k N sc fl W X) {i : Nat} {x : Str} {pos : Pos} (h1 : N[i]? = some x) (h2 : visB sc x = true) (h3 : dbg x = false) : PE X (.Name x pos) (TEx X.K X.mg L W (.pk i)) := by
  obtain ⟨d1, d2, _⟩ := dbg_ok h3
  refine PE.imp (pe_var (i := i) (by rw [c.hN]; exact h1) (c.vis h2) d1 d2) fun σ H Q h => ?_
  obtain ⟨H0, G0, ρ, G, o, h⟩ := h
  cases e : ρ[i]? with
  | none => simp only [evE, e] at h; exact h.elim
  | some s =>
    cases s with
    | own ds =>
      simp only [evE, e] at h
      obtain ⟨a, xs, h1, h2, _, _, h5, h6⟩ := o.own i ds e
      exact ⟨.ref a, h1, h (.ref a) H G (Gr.refl o.same) (.inr ⟨a, xs, ds, rfl, rfl, h2, h5, h6⟩)⟩
    | no => simp only [evE, e] at h; exact h.elim
    | dic _ => simp only [evE, e] at h; exact h.elim
    | val d => simp only [evE, e] at h; exact h.elim
theorem s_con (c : Ctx L k N sc fl W X) {i : Nat} {cc : Str × D} {x : Str} {pos : Pos} (h1 : L.P.con i = some cc) (hx : cc.1 = x) (h2 : glB sc x = true) (h3 : dbg x = false) : PE X (.Name x pos) (TEx X.K X.mg L W (.con i)) := by
  obtain ⟨d1, d2, _⟩ := dbg_ok h3
  obtain ⟨v, u, e1, e2, e3⟩ := c.con i cc h1
  rw [hx] at e1
  refine PE.imp (pe_glob (c.gl h2) e1 e2 d1) fun σ H Q h => ?_
  obtain ⟨H0, G0, ρ, G, o, h⟩ := h
  simp only [evE, c.subC _ _ h1] at h
  exact h v H G (Gr.refl o.same) (Rp.mono (fun _ _ z => by cases z) _ _ e3)
theorem s_fn (c : Ctx L k N sc fl W X) {i : Nat} {fd : Fd} {x : Str} {pos : Pos} (h1 : L.P.fn i = some fd) (hx : fd.name = x) (h2 : glB sc x = true) (h3 : dbg x = false) : PE X (.Name x pos) (TEx X.K X.mg L W (.fn i)) := by
  obtain ⟨d1, d2, _⟩ := dbg_ok h3
  obtain ⟨a, data, e1, _⟩ := c.fns i fd h1
  have e1' := e1
  rw [hx] at e1
  refine PE.imp (pe_glob (v := .ref a) (c.gl h2) e1 rfl d1) fun σ H Q h => ?_
  obtain ⟨H0, G0, ρ, G, o, h⟩ := h
  simp only [evE, c.subF _ _ h1] at h
  exact h (.ref a) H G (Gr.refl o.same) (Rp.fn e1')
theorem s_cst {e : Expr} {x : Ex} {v : V} {d : D} (h : PE X e (tC v)) (hx : x.st = true) (he : ∀ ρ, evE L.U L.cl ρ x = .ok d) (hr : ∀ G, Rp X.K X.mg G v d) : PE X e (TEx X.K X.mg L W x) := by
  refine PE.imp h fun σ H Q h => ?_
  obtain ⟨H0, G0, ρ, G, o, h⟩ := h
  rw [he] at h
  refine h v H G (Gr.refl o.same) ?_
  rw [hx]
  exact hr G
theorem boot_ty : ∀ k : Int, k = 0 ∨ k = 1 ∨ k = 2 ∨ k = 3 ∨ k = 4 → bootBuiltins (Str.ofString (tyName k)) = some (.type (tyName k)) := by
  rintro k (rfl | rfl | rfl | rfl | rfl) <;> decide +kernel
theorem s_ty (c : Ctx L k N sc fl W X) {j : Int} {x : Str} {pos : Pos} (hj : j = 0 ∨ j = 1 ∨ j = 2 ∨ j = 3 ∨ j = 4) (hx : x = Str.ofString (tyName j)) (hb : x ∈ bltNames) (h2 : glB sc x = true) (h3 : dbg x = false) : PE X (.Name x pos) (TEx X.K X.mg L W (.ty j)) := by
  obtain ⟨d1, d2, d3⟩ := dbg_ok h3
  refine s_cst (pe_bltn (v := .ty (tyName j)) (c.gl h2) (c.blt x hb) (by rw [hx]; exact boot_ty j hj) rfl d3 d1) rfl (fun ρ => by simp only [evE]) fun G => Rp.ty j

/-! ### parts -/
theorem ev1 {K : PySem.W.Frag} {mg : Str → Option Value} {σ : L2.St} {H0 G0 H G : Hp} {ρ : List Sl} {a : Ex} {f : D → Res D} {Q Q' : VK} {st : Bool} (o : Ok K mg H0 G0 ρ σ H G) (h : Wn K mg L W σ H G st ((evE L.U L.cl ρ a).bind f) Q)
    (hk : ∀ d v H1 G1, Gr H G H1 G1 → Ok K mg H0 G0 ρ σ H1 G1 → Rx a.st K mg G1 H1 v d → Wn K mg L W σ H1 G1 st (f d) Q → Q' v H1) : TEx K mg L W a σ H Q' :=
  run_ex (B := fun r H G => Wn K mg L W σ H G st r Q) o h (fun _ h => h) (fun h => h) (fun _ _ _ g h => h.grow g) hk
theorem evs {K : PySem.W.Frag} {mg : Str → Option Value} {σ : L2.St} {H0 G0 H G : Hp} {ρ : List Sl} {a : Exs} {f : List D → Res D} {Q : VK} {Q' : List V → Hp → Prop} {st : Bool} (o : Ok K mg H0 G0 ρ σ H G) (h : Wn K mg L W σ H G st ((evL L.U L.cl ρ a).bind f) Q)
    (hk : ∀ ds vs H1 G1, Gr H G H1 G1 → Ok K mg H0 G0 ρ σ H1 G1 → RsA K mg G1 H1 vs ds → (a.allSt = true → RpA K mg G1 vs ds) → Wn K mg L W σ H1 G1 st (f ds) Q → Q' vs H1) : TAx K mg L W a σ H Q' :=
  run_exs (B := fun r H G => Wn K mg L W σ H G st r Q) o h (fun _ h => h) (fun h => h) (fun _ _ _ g h => h.grow g) hk
theorem evt {K : PySem.W.Frag} {mg : Str → Option Value} {σ : L2.St} {H0 G0 H G : Hp} {ρ : List Sl} {a : Ex} {f : Bool → Res D} {Q : VK} {Q' : Bool → Hp → Prop} {st : Bool} (o : Ok K mg H0 G0 ρ σ H G) (h : Wn K mg L W σ H G st (((evE L.U L.cl ρ a).bind fun d => .ofO (truth d)).bind f) Q)
    (hk : ∀ b H1 G1, Gr H G H1 G1 → Ok K mg H0 G0 ρ σ H1 G1 → Wn K mg L W σ H1 G1 st (f b) Q → Q' b H1) : TTx K mg L W a σ H Q' :=
  run_tx (B := fun r H G => Wn K mg L W σ H G st r Q) o h (fun _ h => h) (fun h => h) (fun _ _ _ g h => h.grow g) hk
theorem evo {K : PySem.W.Frag} {mg : Str → Option Value} {σ : L2.St} {H0 G0 H G : Hp} {ρ : List Sl} {a : Ox} {f : Option Int → Res D} {Q : VK} {Q' : Option Int → Hp → Prop} {st : Bool} (o : Ok K mg H0 G0 ρ σ H G) (h : Wn K mg L W σ H G st ((evO L.U L.cl ρ a).bind f) Q)
    (hk : ∀ d H1 G1, Gr H G H1 G1 → Ok K mg H0 G0 ρ σ H1 G1 → Wn K mg L W σ H1 G1 st (f d) Q → Q' d H1) : TOx K mg L W a σ H Q' :=
  run_ox (B := fun r H G => Wn K mg L W σ H G st r Q) o h (fun _ h => h) (fun h => h) (fun _ _ _ g h => h.grow g) hk
theorem Wn.ofO {K : PySem.W.Frag} {mg : Str → Option Value} {σ : L2.St} {H G : Hp} {Q : VK} {st : Bool} {r : Option D} (h : Wn K mg L W σ H G st (.ofO r) Q) : ∃ d, r = some d ∧ Fin K mg H G Q d := by
  cases r with
  | none => exact h.elim
  | some d => exact ⟨d, rfl, h.fin⟩

/-! ### operators -/
theorem s_bin {op : Operator} {bo : Bop} {a b : Expr} {x y : Ex} {pos : Pos} (ho : OpR X (binaryOp op) (rB X.K X.mg (bop bo))) (ha : PE X a (TEx X.K X.mg L W x)) (hb : PE X b (TEx X.K X.mg L W y)) : PE X (.BinOp a op b pos) (TEx X.K X.mg L W (.bin bo x y)) := by
  refine PE.imp (pe_op ho ha hb) fun σ H Q h => ?_
  obtain ⟨H0, G0, ρ, G, o, h⟩ := h
  simp only [evE] at h
  refine ev1 o h fun d v H1 G1 g1 o1 r1 h1 => ev1 o1 h1 fun e w H2 G2 g2 o2 r2 h2 => ?_
  obtain ⟨z, ez, f⟩ := h2.ofO
  exact ⟨G2, d, e, z, o2.same, r1.rs.gr g2, r2.rs, ez, f⟩
theorem WnB.tru {K : PySem.W.Frag} {mg : Str → Option Value} {σ : L2.St} {H G : Hp} {st : Bool} {r : Res D} {Q : Bool → Hp → Prop} (h : WnB L W σ H G (r.bind fun d => .ofO (truth d)) Q) : Wn K mg L W σ H G st r (fun v H' => ∃ k, TruV K v H' k ∧ Q k H') := by
  cases r with
  | no => exact h
  | ex c => exact h
  | ok d =>
    cases e : truth d with
    | none => simp only [Res.bind_ok, e] at h; exact h.elim
    | some b =>
      simp only [Res.bind_ok, e] at h
      exact fun v H' G' g r => ⟨b, truth_ok g.s r.rs e, h H' G' g⟩
theorem WnB.tst {K : PySem.W.Frag} {mg : Str → Option Value} {σ : L2.St} {H G : Hp} {r : Res D} {Q : Bool → Hp → Prop} (hb : ∀ d, r = .ok d → ∃ k, d = .bool k) (h : WnB L W σ H G (r.bind fun d => .ofO (truth d)) Q) : Wn K mg L W σ H G true r (fun v H' => ∃ k, v = .bl k ∧ Q k H') := by
  cases r with
  | no => exact h
  | ex c => exact h
  | ok d =>
    obtain ⟨k, rfl⟩ := hb d rfl
    exact fun v H' G' g r => by
      have q : Rp K mg G' v (.bool k) := r
      cases q
      exact ⟨k, rfl, h H' G' g⟩
/-- the test of an expression that is its value's truth -/
theorem s_tru {e : Expr} {x : Ex} (h : PE X e (TEx X.K X.mg L W x)) (he : ∀ whole, isTrue e X.env whole = (do let v ← whole; standAt e.pos; holding [v] (truthy v))) : PT X e (TTx X.K X.mg L W x) := by
  refine PT.imp (pt_truth h he) fun σ H Q h => ?_
  obtain ⟨H0, G0, ρ, G, o, h⟩ := h
  exact ⟨H0, G0, ρ, G, o, h.tru⟩
theorem gd_bool {c : Prop} [Decidable c] {b : Bool} {d : D} (h : gd c (.bool b) = some d) : ∃ k, d = .bool k := ⟨b, ((gd_some h).2).symm⟩
theorem notD_bool {o : Option D} {d : D} (h : notD o = some d) : ∃ k, d = .bool k := by
  unfold notD at h
  split at h
  · exact ⟨_, (Option.some.inj h).symm⟩
  · cases h
theorem cop_bool {bo : Cop} {a b d : D} (h : cop bo a b = some d) : ∃ k, d = .bool k := by
  cases bo
  · exact gd_bool h
  · exact gd_bool h
  · simp only [cop, cLt] at h
    split at h
    · exact ⟨_, (Option.some.inj h).symm⟩
    · exact gd_bool h
  · simp only [cop, cLe] at h
    split at h
    · exact ⟨_, (Option.some.inj h).symm⟩
    · cases h
  · simp only [cop, cGt] at h
    split at h
    · exact ⟨_, (Option.some.inj h).symm⟩
    · exact gd_bool h
  · simp only [cop, cGe] at h
    split at h
    · exact ⟨_, (Option.some.inj h).symm⟩
    · exact gd_bool h
  · simp only [cop, cIs] at h
    split at h
    · exact ⟨_, (Option.some.inj h).symm⟩
    · cases h
    · exact ⟨_, (Option.some.inj h).symm⟩
    · exact ⟨_, (Option.some.inj h).symm⟩
    · cases h
  · exact notD_bool h
  · simp only [cop, cIn] at h
    split at h
    · exact ⟨_, (Option.some.inj h).symm⟩
    · exact gd_bool h
    · exact gd_bool h
    · cases h
  · exact notD_bool h
theorem bind_ok_inv {α β : Type} {r : Res α} {f : α → Res β} {d : β} (h : r.bind f = .ok d) : ∃ a, r = .ok a ∧ f a = .ok d := by
  cases r with
  | ok a => exact ⟨a, rfl, h⟩
  | ex c => cases h
  | no => cases h
theorem ofO_ok_inv {α : Type} {r : Option α} {d : α} (h : Res.ofO r = .ok d) : r = some d := by
  cases r with
  | some a => cases h; rfl
  | none => cases h
theorem s_cmp {op : CmpOp} {bo : Cop} {a b : Expr} {x y : Ex} {pos : Pos} (ho : OpR X (compareOp op) (rB X.K X.mg (cop bo))) (hm : behindInMarks op b = false) (ha : PE X a (TEx X.K X.mg L W x)) (hb : PE X b (TEx X.K X.mg L W y)) :
    PE X (.Compare a [op] [b] pos) (TEx X.K X.mg L W (.cmp bo x y)) ∧ PT X (.Compare a [op] [b] pos) (TTx X.K X.mg L W (.cmp bo x y)) := by
  have core : ∀ σ H Q, TEx X.K X.mg L W (.cmp bo x y) σ H Q → tOp (rB X.K X.mg (cop bo)) (TEx X.K X.mg L W x) (TEx X.K X.mg L W y) σ H Q := fun σ H Q h => by
    obtain ⟨H0, G0, ρ, G, o, h⟩ := h
    simp only [evE] at h
    refine ev1 o h fun d v H1 G1 g1 o1 r1 h1 => ev1 o1 h1 fun e w H2 G2 g2 o2 r2 h2 => ?_
    obtain ⟨z, ez, f⟩ := h2.ofO
    exact ⟨G2, d, e, z, o2.same, r1.rs.gr g2, r2.rs, ez, f⟩
  refine ⟨PE.imp (pe_cmpR ho ha hb hm) core, PT.imp (pt_cmpR ho ha hb hm) fun σ H Q h => ?_⟩
  obtain ⟨H0, G0, ρ, G, o, h⟩ := h
  refine core σ H _ ⟨H0, G0, ρ, G, o, h.tst fun d e => ?_⟩
  simp only [evE] at e
  obtain ⟨_, _, e⟩ := bind_ok_inv e
  obtain ⟨_, _, e⟩ := bind_ok_inv e
  exact cop_bool (ofO_ok_inv e)
theorem s_chn {op op' : CmpOp} {bo bo' : Cop} {a b c : Expr} {x y z : Ex} {pos : Pos} (ho : OpR X (compareOp op) (rB X.K X.mg (cop bo))) (ho' : OpR X (compareOp op') (rB X.K X.mg (cop bo'))) (hm : lastMarks [op, op'] [b, c] = false)
    (ha : PE X a (TEx X.K X.mg L W x)) (hb : PE X b (TEx X.K X.mg L W y)) (hc : PE X c (TEx X.K X.mg L W z)) :
    PE X (.Compare a [op, op'] [b, c] pos) (TEx X.K X.mg L W (.chn bo bo' x y z)) ∧ PT X (.Compare a [op, op'] [b, c] pos) (TTx X.K X.mg L W (.chn bo bo' x y z)) := by
  have core : ∀ σ H Q, TEx X.K X.mg L W (.chn bo bo' x y z) σ H Q → tChain (rB X.K X.mg (cop bo)) (rB X.K X.mg (cop bo')) (TEx X.K X.mg L W x) (TEx X.K X.mg L W y) (TEx X.K X.mg L W z) σ H Q := fun σ H Q h => by
    obtain ⟨H0, G0, ρ, G, o, h⟩ := h
    simp only [evE] at h
    refine ev1 o h fun d v H1 G1 g1 o1 r1 h1 => ev1 o1 h1 fun e w H2 G2 g2 o2 r2 h2 => ?_
    cases q : cop bo d e with
    | none => simp only [q] at h2; exact h2.elim
    | some r =>
      obtain ⟨k, rfl⟩ := cop_bool q
      simp only [q, Res.ofO_some, Res.bind_ok, asBool] at h2
      refine ⟨G2, d, e, .bool k, o2.same, r1.rs.gr g2, r2.rs, q, fun v3 H3 G3 g3 r3 => ?_⟩
      cases r3
      refine ⟨k, rfl, ?_⟩
      have h3 := h2.grow g3
      have o3 := o2.grow g3
      cases k with
      | true =>
        rw [if_pos rfl]
        refine ev1 o3 h3 fun d4 v4 H4 G4 g4 o4 r4 h4 => ?_
        obtain ⟨z', ez, f⟩ := h4.ofO
        exact ⟨G4, e, d4, z', o4.same, (r2.rs.gr g3).gr g4, r4.rs, ez, f⟩
      | false =>
        rw [if_neg Bool.false_ne_true]
        exact h3 (.bl false) H3 G3 (Gr.refl o3.same) (.bl false)
  refine ⟨PE.imp (pe_chain ho ho' ha hb hc hm) core, PT.imp (pt_chain ho ho' ha hb hc hm) fun σ H Q h => ?_⟩
  obtain ⟨H0, G0, ρ, G, o, h⟩ := h
  refine core σ H _ ⟨H0, G0, ρ, G, o, h.tst fun d e => ?_⟩
  simp only [evE] at e
  obtain ⟨_, _, e⟩ := bind_ok_inv e
  obtain ⟨_, _, e⟩ := bind_ok_inv e
  obtain ⟨_, _, e⟩ := bind_ok_inv e
  obtain ⟨b, _, e⟩ := bind_ok_inv e
  cases b with
  | true =>
    obtain ⟨_, _, e⟩ := bind_ok_inv e
    exact cop_bool (ofO_ok_inv e)
  | false => cases e; exact ⟨_, rfl⟩
theorem s_neg {a : Expr} {x : Ex} {pos : Pos} (ha : PE X a (TEx X.K X.mg L W x)) : PE X (.UnaryOp .USub a pos) (TEx X.K X.mg L W (.neg x)) := by
  refine PE.imp (pe_un un_neg ha) fun σ H Q h => ?_
  obtain ⟨H0, G0, ρ, G, o, h⟩ := h
  simp only [evE] at h
  refine ev1 o h fun d v H1 G1 g1 o1 r1 h1 => ?_
  cases d with
  | int i => exact ⟨i, r1.rs.int, h1.fin.here o1.same (.int _)⟩
  | _ => exact h1.elim
theorem s_not {a : Expr} {x : Ex} {pos : Pos} (ha : PE X a (TEx X.K X.mg L W x)) (ht : PT X a (TTx X.K X.mg L W x)) :
    PE X (.UnaryOp .Not a pos) (TEx X.K X.mg L W (.not x)) ∧ PT X (.UnaryOp .Not a pos) (TTx X.K X.mg L W (.not x)) := by
  constructor
  · refine PE.imp (pe_notT ha) fun σ H Q h => ?_
    obtain ⟨H0, G0, ρ, G, o, h⟩ := h
    simp only [evE] at h
    refine ev1 o h fun d v H1 G1 g1 o1 r1 h1 => ?_
    cases e : truth d with
    | none => simp only [e] at h1; exact h1.elim
    | some b =>
      simp only [e, Res.ofO_some, Res.bind_ok] at h1
      exact ⟨b, truth_ok o1.same r1.rs e, h1.fin.here o1.same (.bl _)⟩
  · refine PT.imp (pt_not ht) fun σ H Q h => ?_
    obtain ⟨H0, G0, ρ, G, o, h⟩ := h
    simp only [evE] at h
    refine ⟨H0, G0, ρ, G, o, ?_⟩
    cases e : evE L.U L.cl ρ x with
    | no => simp only [e] at h; exact h.elim
    | ex c => simp only [e] at h; exact h
    | ok d =>
      simp only [e, Res.bind_ok] at h ⊢
      cases e2 : truth d with
      | none => simp only [e2] at h; exact h.elim
      | some b =>
        simp only [e2, Res.ofO_some, Res.bind_ok] at h ⊢
        exact h
theorem s_and {a b : Expr} {rest : List Expr} {x y : Ex} {pos : Pos} (ha : PE X a (TEx X.K X.mg L W x)) (ht : PT X a (TTx X.K X.mg L W x)) (hb : PE X (.BoolOp .And (b :: rest) pos) (TEx X.K X.mg L W y)) (hw : PW X (.BoolOp .And (b :: rest) pos) (TTx X.K X.mg L W y)) (sx : x.st = true) (sy : y.st = true) :
    PE X (.BoolOp .And (a :: b :: rest) pos) (TEx X.K X.mg L W (.and x y)) ∧ PW X (.BoolOp .And (a :: b :: rest) pos) (TTx X.K X.mg L W (.and x y)) := by
  constructor
  · refine PE.imp (pe_andT ha hb) fun σ H Q h => ?_
    obtain ⟨H0, G0, ρ, G, o, h⟩ := h
    simp only [evE] at h
    refine ev1 o h fun d v H1 G1 g1 o1 r1 h1 => ?_
    cases e : truth d with
    | none => simp only [e] at h1; exact h1.elim
    | some k =>
      simp only [e, Res.ofO_some, Res.bind_ok] at h1
      refine ⟨k, truth_ok o1.same r1.rs e, ?_⟩
      cases k with
      | true =>
        rw [if_pos rfl]
        refine ⟨H0, G0, ρ, G1, o1, ?_⟩
        rw [sy]
        exact h1
      | false =>
        rw [if_neg Bool.false_ne_true]
        refine h1 v H1 G1 (Gr.refl o1.same) ?_
        rw [sx] at r1
        exact r1
  · refine PW.imp (pw_and ht hw) fun σ H Q h => ?_
    obtain ⟨H0, G0, ρ, G, o, h⟩ := h
    simp only [evE] at h
    refine ⟨H0, G0, ρ, G, o, ?_⟩
    cases e : evE L.U L.cl ρ x with
    | no => simp only [e] at h; exact h.elim
    | ex c => simp only [e] at h; exact h
    | ok d =>
      simp only [e, Res.bind_ok] at h ⊢
      cases e2 : truth d with
      | none => simp only [e2] at h; exact h.elim
      | some k =>
        simp only [e2, Res.ofO_some, Res.bind_ok] at h ⊢
        intro H' G' g
        cases k with
        | true =>
          rw [if_pos rfl]
          exact ⟨H0, G0, ρ, G', o.grow g, h.grow g⟩
        | false =>
          rw [if_neg Bool.false_ne_true]
          simp only [Res.bind_ok, e2, Res.ofO_some] at h
          exact h H' G' g
theorem s_or {a b : Expr} {rest : List Expr} {x y : Ex} {pos : Pos} (ha : PE X a (TEx X.K X.mg L W x)) (ht : PT X a (TTx X.K X.mg L W x)) (hb : PE X (.BoolOp .Or (b :: rest) pos) (TEx X.K X.mg L W y)) (hw : PW X (.BoolOp .Or (b :: rest) pos) (TTx X.K X.mg L W y)) (sx : x.st = true) (sy : y.st = true) :
    PE X (.BoolOp .Or (a :: b :: rest) pos) (TEx X.K X.mg L W (.or x y)) ∧ PW X (.BoolOp .Or (a :: b :: rest) pos) (TTx X.K X.mg L W (.or x y)) := by
  constructor
  · refine PE.imp (pe_orT ha hb) fun σ H Q h => ?_
    obtain ⟨H0, G0, ρ, G, o, h⟩ := h
    simp only [evE] at h
    refine ev1 o h fun d v H1 G1 g1 o1 r1 h1 => ?_
    cases e : truth d with
    | none => simp only [e] at h1; exact h1.elim
    | some k =>
      simp only [e, Res.ofO_some, Res.bind_ok] at h1
      refine ⟨k, truth_ok o1.same r1.rs e, ?_⟩
      cases k with
      | false =>
        rw [if_neg Bool.false_ne_true]
        refine ⟨H0, G0, ρ, G1, o1, ?_⟩
        rw [sy]
        exact h1
      | true =>
        rw [if_pos rfl]
        refine h1 v H1 G1 (Gr.refl o1.same) ?_
        rw [sx] at r1
        exact r1
  · refine PW.imp (pw_or ht hw) fun σ H Q h => ?_
    obtain ⟨H0, G0, ρ, G, o, h⟩ := h
    simp only [evE] at h
    refine ⟨H0, G0, ρ, G, o, ?_⟩
    cases e : evE L.U L.cl ρ x with
    | no => simp only [e] at h; exact h.elim
    | ex c => simp only [e] at h; exact h
    | ok d =>
      simp only [e, Res.bind_ok] at h ⊢
      cases e2 : truth d with
      | none => simp only [e2] at h; exact h.elim
      | some k =>
        simp only [e2, Res.ofO_some, Res.bind_ok] at h ⊢
        intro H' G' g
        cases k with
        | false =>
          rw [if_neg Bool.false_ne_true]
          exact ⟨H0, G0, ρ, G', o.grow g, h.grow g⟩
        | true =>
          rw [if_pos rfl]
          simp only [Res.bind_ok, e2, Res.ofO_some] at h
          exact h H' G' g
theorem s_one {op : BoolOp} {a : Expr} {x : Ex} {pos : Pos} (ha : PE X a (TEx X.K X.mg L W x)) (ht : PT X a (TTx X.K X.mg L W x)) (sx : x.st = true) :
    PE X (.BoolOp op [a] pos) (TEx X.K X.mg L W (.one x)) ∧ PW X (.BoolOp op [a] pos) (TTx X.K X.mg L W (.one x)) := by
  constructor
  · refine PE.imp (pe_one ha) fun σ H Q h => ?_
    obtain ⟨H0, G0, ρ, G, o, h⟩ := h
    simp only [evE] at h
    refine ⟨H0, G0, ρ, G, o, ?_⟩
    rw [sx]
    exact h
  · have i : ∀ σ H Q, TTx X.K X.mg L W (.one x) σ H Q → TTx X.K X.mg L W x σ H Q := fun σ H Q h => by
      obtain ⟨H0, G0, ρ, G, o, h⟩ := h
      simp only [evE] at h
      exact ⟨H0, G0, ρ, G, o, h⟩
    cases op with
    | And => exact PW.imp (pw_and1 ht) i
    | Or => exact PW.imp (pw_or1 ht) i
theorem s_ite {c a b : Expr} {z x y : Ex} {pos : Pos} (hc : PT X c (TTx X.K X.mg L W z)) (ha : PE X a (TEx X.K X.mg L W x)) (hb : PE X b (TEx X.K X.mg L W y)) (sx : x.st = true) (sy : y.st = true) : PE X (.IfExp c a b pos) (TEx X.K X.mg L W (.ite z x y)) := by
  refine PE.imp (pe_ifExp hc ha hb) fun σ H Q h => ?_
  obtain ⟨H0, G0, ρ, G, o, h⟩ := h
  simp only [evE] at h
  refine evt (f := fun k => match k with | true => evE L.U L.cl ρ x | false => evE L.U L.cl ρ y) (st := true) (Q := Q) o ?_ fun k H1 G1 g1 o1 h1 => ?_
  · cases e : evE L.U L.cl ρ z with
    | no => rw [e] at h; exact h
    | ex c => rw [e] at h; exact h
    | ok d => rw [e] at h; exact h
  · cases k with
    | true =>
      rw [if_pos rfl]
      refine ⟨H0, G0, ρ, G1, o1, ?_⟩
      rw [sx]
      exact h1
    | false =>
      rw [if_neg Bool.false_ne_true]
      refine ⟨H0, G0, ρ, G1, o1, ?_⟩
      rw [sy]
      exact h1

/-! ### arguments, displays -/
def noStar : Expr → Bool
  | .Starred _ _ => false
  | _ => true
theorem star1 {e : Expr} {es : List Expr} {env : Env} (h : noStar e = true) : starEach (e :: es) env = (false, eval e env) :: starEach es env := by
  cases e <;> first | rfl | cases h
theorem stars {env : Env} : ∀ {es : List Expr}, es.all noStar = true → ∀ pos, (backTo pos (starEach es env)).any (·.1) = false
  | [], _, _ => rfl
  | e :: es, h, pos => by
    rw [List.all_cons, Bool.and_eq_true] at h
    rw [star1 h.1]
    have := stars (env := env) h.2 pos
    unfold backTo at this ⊢
    rw [List.map_cons, List.any_cons, this]
    rfl
theorem s_nil : PA X [] (TAx X.K X.mg L W .nil) := by
  refine PA.imp pa_nil fun σ H Q h => ?_
  obtain ⟨H0, G0, ρ, G, o, h⟩ := h
  simp only [evL] at h
  exact h [] H G (Gr.refl o.same) .nil fun _ => .nil
theorem s_cons {e : Expr} {es : List Expr} {x : Ex} {xs : Exs} (hs : noStar e = true) (he : PE X e (TEx X.K X.mg L W x)) (hes : PA X es (TAx X.K X.mg L W xs)) : PA X (e :: es) (TAx X.K X.mg L W (.cons x xs)) := by
  refine PA.imp (pa_cons he hes (star1 hs)) fun σ H Q h => ?_
  obtain ⟨H0, G0, ρ, G, o, h⟩ := h
  simp only [evL] at h
  refine run_ex (B := fun r H G => WnL X.K X.mg L W σ H G (Exs.cons x xs).allSt r Q) o h (fun _ h => h) (fun h => h) (fun _ _ _ g h => h.grow g) fun d v H1 G1 g1 o1 r1 h1 => ?_
  refine run_exs (B := fun r H G => WnL X.K X.mg L W σ H G (Exs.cons x xs).allSt r Q) o1 h1 (fun _ h => h) (fun h => h) (fun _ _ _ g h => h.grow g) fun ds vs H2 G2 g2 o2 r2 q2 h2 => ?_
  refine h2 (v :: vs) H2 G2 (Gr.refl o2.same) (.cons (r1.rs.gr g2) r2) fun hst => ?_
  simp only [Exs.allSt, Bool.and_eq_true] at hst
  rw [hst.1] at r1
  exact .cons (Rp.mono g2.g d v r1) (q2 hst.2)
theorem evL_len : ∀ {xs : Exs} {ρ : List Sl} {ds : List D}, evL L.U L.cl ρ xs = .ok ds → ds.length = xs.len
  | .nil, _, _, h => by simp only [evL] at h; cases h; rfl
  | .cons x xs, ρ, ds, h => by
    simp only [evL] at h
    obtain ⟨_, _, h⟩ := bind_ok_inv h
    obtain ⟨es, h1, h⟩ := bind_ok_inv h
    cases h
    rw [List.length_cons, evL_len h1]
    rfl
theorem s_tup {es : List Expr} {xs : Exs} {j : Nat} {pos : Pos} (h : PA X es (TAx X.K X.mg L W xs)) (hst : xs.allSt = true) (hl : xs.len ≤ 1000) : PE X (.Tuple es j pos) (TEx X.K X.mg L W (.tup xs)) := by
  refine PE.imp (pe_tup h) fun σ H Q h => ?_
  obtain ⟨H0, G0, ρ, G, o, h⟩ := h
  simp only [evE] at h
  refine ⟨H0, G0, ρ, G, o, ?_⟩
  cases e : evL L.U L.cl ρ xs with
  | no => rw [e] at h; exact h
  | ex c => rw [e] at h; exact h
  | ok ds =>
    rw [e] at h
    intro vs H1 G1 g1 r1 q1
    have hd := evL_len e
    have hv := (q1 hst).length
    have h1 := h.grow g1
    exact ⟨le_sl (by omega), fun p hp => h1.fin.newT g1.s (q1 hst) (by omega) hp⟩
theorem s_lst {es : List Expr} {xs : Exs} {pos : Pos} (h : PA X es (TAx X.K X.mg L W xs)) (hst : xs.allSt = true) (hl : xs.len ≤ 1000) : PE X (.List es pos) (TEx X.K X.mg L W (.lst xs)) := by
  refine PE.imp (pe_lst h) fun σ H Q h => ?_
  obtain ⟨H0, G0, ρ, G, o, h⟩ := h
  simp only [evE] at h
  refine ⟨H0, G0, ρ, G, o, ?_⟩
  cases e : evL L.U L.cl ρ xs with
  | no => rw [e] at h; exact h
  | ex c => rw [e] at h; exact h
  | ok ds =>
    rw [e] at h
    intro vs H1 G1 g1 r1 q1
    have hd := evL_len e
    have hv := (q1 hst).length
    have h1 := h.grow g1
    exact ⟨le_sl (by omega), fun p hp => h1.fin.newL g1.s (q1 hst) (by omega) hp⟩

/-! ### subscripts, slices -/
theorem s_sub {a b : Expr} {x y : Ex} {pos : Pos} (hp : PlainIx b) (ha : PE X a (TEx X.K X.mg L W x)) (hb : PE X b (TEx X.K X.mg L W y)) : PE X (.Subscript a b pos) (TEx X.K X.mg L W (.sub x y)) := by
  refine PE.imp (pe_ix ix_D ha hb hp) fun σ H Q h => ?_
  obtain ⟨H0, G0, ρ, G, o, h⟩ := h
  simp only [evE] at h
  refine ev1 o h fun d v H1 G1 g1 o1 r1 h1 => ev1 o1 h1 fun e w H2 G2 g2 o2 r2 h2 => ?_
  obtain ⟨z, ez, f⟩ := h2.ofO
  exact ⟨G2, d, e, z, o2.same, r1.rs.gr g2, r2.rs, ez, f⟩
theorem s_getd (c : Ctx L k N sc fl W X) {i : Nat} {x : Str} {es : List Expr} {xs : Exs} {j : Nat} {p p2 pos : Pos} (h1 : N[i]? = some x) (h2 : visB sc x = true) (h3 : dbg x = false) (ha : PA X es (TAx X.K X.mg L W xs)) (hst : xs.allSt = true) (hl : xs.len ≤ 1000) :
    PE X (.Subscript (.Name x p) (.Tuple es j p2) pos) (TEx X.K X.mg L W (.getd i xs)) := by
  obtain ⟨d1, d2, _⟩ := dbg_ok h3
  refine PE.imp (pe_dget (by have := c.units; omega) (pe_var (i := i) (by rw [c.hN]; exact h1) (c.vis h2) d1 d2) (pe_tup ha) (fun _ _ => rfl)) fun σ H Q h => ?_
  obtain ⟨H0, G0, ρ, G, o, h⟩ := h
  cases e : ρ[i]? with
  | none => simp only [evE, e] at h; exact h.elim
  | some s =>
    cases s with
    | own _ => simp only [evE, e] at h; exact h.elim
    | no => simp only [evE, e] at h; exact h.elim
    | val _ => simp only [evE, e] at h; exact h.elim
    | dic kvs =>
      simp only [evE, e] at h
      obtain ⟨a, ws, e1, e2, e3, e4, e5, e6⟩ := o.dic i kvs e
      refine ⟨.ref a, e1, H0, G0, ρ, G, o, ?_⟩
      cases el : evL L.U L.cl ρ xs with
      | no => rw [el] at h; exact h
      | ex c => rw [el] at h; exact h
      | ok ds =>
        rw [el] at h
        intro vs H1 G1 g1 r1 q1
        have hd := evL_len el
        have hv := (q1 hst).length
        have hg := h.grow g1
        simp only [Res.bind_ok] at hg
        cases ek : keyL ds with
        | none => rw [ek] at hg; exact hg.elim
        | some kk =>
          rw [ek] at hg
          simp only [Option.bind_some] at hg
          cases eg : getK kvs kk with
          | none => rw [eg] at hg; exact hg.elim
          | some d =>
            rw [eg] at hg
            have hvk := keyL_ok (q1 hst) ek
            refine ⟨le_sl (by omega), fun q hq => ?_⟩
            obtain ⟨v, hv1, hv2⟩ := (RpK.mono g1.g e6).get eg
            have ha1 : H1 a = some (.dT ws) := g1.h _ _ e2
            have hne : a ≠ q := fun z => by rw [z, hq] at ha1; cases ha1
            refine ⟨a, v, rfl, ?_, hg v _ _ (Gr.own g1.s (.tup vs) hq) hv2⟩
            rw [← hv1]
            exact DGet.t (by rw [upd_ne hne]; exact ha1) (by rw [upd_same, hvk])
theorem s_ox0 : PO X none (TOx X.K X.mg L W .no) := by
  refine PO.imp po_none fun σ H Q h => ?_
  obtain ⟨H0, G0, ρ, G, o, h⟩ := h
  simp only [evO] at h
  exact h H G (Gr.refl o.same)
theorem s_ox1 {e : Expr} {x : Ex} (he : PE X e (TEx X.K X.mg L W x)) : PO X (some e) (TOx X.K X.mg L W (.some x)) := by
  refine PO.imp (po_some he) fun σ H Q h => ?_
  obtain ⟨H0, G0, ρ, G, o, h⟩ := h
  simp only [evO] at h
  refine run_ex (B := fun r H G => WnO L W σ H G r Q) o h (fun _ h => h) (fun h => h) (fun _ _ _ g h => h.grow g) fun d v H1 G1 g1 o1 r1 h1 => ?_
  cases d with
  | int i => exact ⟨i, r1.rs.int, h1 H1 G1 (Gr.refl o1.same)⟩
  | _ => exact h1.elim
theorem s_sl {a : Expr} {lo hi : Option Expr} {x : Ex} {l h : Ox} {p2 pos : Pos} (ha : PE X a (TEx X.K X.mg L W x)) (hl : PO X lo (TOx X.K X.mg L W l)) (hh : PO X hi (TOx X.K X.mg L W h)) : PE X (.Subscript a (.Slice lo hi none p2) pos) (TEx X.K X.mg L W (.sl x l h)) := by
  refine PE.imp (pe_slice sl_D ha hl hh) fun σ H Q h => ?_
  obtain ⟨H0, G0, ρ, G, o, h⟩ := h
  simp only [evE] at h
  refine ev1 o h fun d v H1 G1 g1 o1 r1 h1 => evo o1 h1 fun i H2 G2 g2 o2 h2 => evo o2 h2 fun j H3 G3 g3 o3 h3 => ?_
  obtain ⟨z, ez, f⟩ := h3.ofO
  exact ⟨G3, d, z, o3.same, (r1.rs.gr g2).gr g3, ez, f⟩

/-! ### calls -/
theorem run_D (c : Ctx L k N sc fl W X) {f : Nat} {fd : Fd} (hf : L.P.fn f = some fd) {pins : List (Addr × Obj)} {s : Shared} {σ : L2.St} {H G : Hp} {a : Addr} {vs : List V} {us : List Value} {ds : List D} {Q : VK} (ha : X.mg fd.name = some (.ref a))
    (I : Inv X pins σ H s) (r : Vals vs us) (s0 : Same G H) (rp : RpA X.K X.mg G vs ds) (hl : ds.length = fd.par) (h : Wn X.K X.mg L W σ H G true (L.cl f ds) Q) : wpAny (model X.prog X.w) X.A (call (.ref a) us) (EP X pins σ Q) X.xe s := by
  obtain ⟨a', data, e1, _, bd, F⟩ := c.fns f fd hf
  rw [ha] at e1
  cases e1
  refine run_fnS (E := WE W) F c.room bd (passAt c.takes σ) I r ⟨by rw [rp.length]; exact hl, G, ds, s0, rp, ?_⟩
  cases e : L.cl f ds with
  | ok d => rw [e] at h; exact h.fin
  | ex c => rw [e] at h; exact h
  | no => rw [e] at h; exact h
theorem s_call (c : Ctx L k N sc fl W X) {f : Nat} {fd : Fd} (hf : L.P.fn f = some fd) {x : Str} {p pos : Pos} {es : List Expr} {xs : Exs} (hx : fd.name = x) (hg : glB sc x = true) (hd : dbg x = false) (hst : xs.allSt = true) (hl : xs.len = fd.par) (hns : es.all noStar = true) (hnil : es = [] → xs = .nil)
    (ha : PA X es (TAx X.K X.mg L W xs)) : PE X (.Call (.Name x p) es [] pos) (TEx X.K X.mg L W (.call f xs)) := by
  obtain ⟨d1, d2, _⟩ := dbg_ok hd
  obtain ⟨a, data, e1, kp, bd, F⟩ := c.fns f fd hf
  have e1' := e1
  rw [hx] at e1'
  cases es with
  | nil =>
    refine ⟨fun pins s σ H Q I h => ?_⟩
    refine wpAny_Call_Name_kw (ld_glob I (c.gl hg) e1' ?_ d1)
    refine PySem.W.callWith_K0 I.kIn kp ?_
    obtain ⟨H0, G0, ρ, G, o, h⟩ := h
    simp only [evE] at h
    have hx0 := hnil rfl
    subst hx0
    simp only [evL, Res.bind_ok] at h
    exact run_D c hf e1 I .nil o.same .nil (by rw [← hl]; rfl) h
  | cons e es =>
    rw [List.all_cons, Bool.and_eq_true] at hns
    refine ⟨fun pins s σ H Q I h => ?_⟩
    refine wpAny_Call_Name_kw (ld_glob I (c.gl hg) e1' ?_ d1)
    obtain ⟨H0, G0, ρ, G, o, h⟩ := h
    simp only [evE] at h
    have ha' : TAx X.K X.mg L W xs σ H (fun vs H1 => ∃ G1 ds, Same G1 H1 ∧ ds.length = fd.par ∧ RpA X.K X.mg G1 vs ds ∧ Wn X.K X.mg L W σ H1 G1 true (L.cl f ds) Q) := by
      refine ⟨H0, G0, ρ, G, o, ?_⟩
      cases q : evL L.U L.cl ρ xs with
      | no => rw [q] at h; exact h
      | ex c => rw [q] at h; exact h
      | ok ds =>
        rw [q] at h
        intro vs H1 G1 g1 r1 q1
        exact ⟨G1, ds, g1.s, by rw [evL_len q]; exact hl, q1 hst, h.grow g1⟩
    refine PySem.W.callWith_K (h₀ := X.base) I.ok.mod.kin kp (thn (ha.run pos pins s σ H _ I ha') fun us s1 ⟨vs, H1, I1, r, G1, ds, s0, hl', rp, q⟩ => ⟨I1.kIn, ?_⟩) (star1 hns.1) (stars hns.2 pos)
    exact run_D c hf e1 I1 r s0 rp hl' q
theorem s_bc {x : Str} {p pos : Pos} {es : List Expr} {xs : Exs} {b : Bn} (hns : es.all noStar = true) (hne : es ≠ [])
    (hc : (∃ id, CallR X (.builtin id) (rC X.K X.mg (bfn b)) ∧ bootBuiltins x = some (.builtin id)) ∨ (∃ T, CallR X (.type T) (rC X.K X.mg (bfn b)) ∧ bootBuiltins x = some (.type T)))
    (hg : Gl X x) (hm : X.mg x = none) (hd : dbg x = false) (ha : PA X es (TAx X.K X.mg L W xs)) : PE X (.Call (.Name x p) es [] pos) (TEx X.K X.mg L W (.bc b xs)) := by
  obtain ⟨d1, d2, d3⟩ := dbg_ok hd
  cases es with
  | nil => exact absurd rfl hne
  | cons e es =>
    rw [List.all_cons, Bool.and_eq_true] at hns
    have core : ∀ σ H Q, TEx X.K X.mg L W (.bc b xs) σ H Q → tCB (rC X.K X.mg (bfn b)) (TAx X.K X.mg L W xs) σ H Q := fun σ H Q h => by
      obtain ⟨H0, G0, ρ, G, o, h⟩ := h
      simp only [evE] at h
      refine evs o h fun ds vs H1 G1 g1 o1 r1 _ h1 => ?_
      obtain ⟨z, ez, f⟩ := h1.ofO
      exact ⟨G1, ds, z, o1.same, r1, ez, f⟩
    rcases hc with ⟨id, hr, hb⟩ | ⟨T, hr, hb⟩
    · exact PE.imp (pe_callB hr hg hm hb ha d3 d1 (star1 hns.1) (stars hns.2 pos)) core
    · exact PE.imp (pe_callTy hr hg hm hb ha d3 d1 (star1 hns.1) (stars hns.2 pos)) core
end
end Bg

set_option Elab.async false
set_option linter.all false
set_option maxRecDepth 100000
set_option maxHeartbeats 4000000
/-! Targets, walks, comprehensions, methods. -/
namespace Bg
open PySem PySem.Spec L2

/-! ### slots wiped -/
theorem wipe_get : ∀ (vs : List Nat) (σ : L2.St) (j : Nat), (L2.wipe σ vs)[j]? = if j ∈ vs ∧ j < σ.length then some none else σ[j]?
  | [], σ, j => by simp [L2.wipe]
  | v :: vs, σ, j => by
    unfold L2.wipe
    by_cases e : v = j
    · subst e
      by_cases hl : v < σ.length
      · rw [List.getElem?_set_self (by rw [L2.wipe_length]; exact hl), if_pos ⟨List.mem_cons_self, hl⟩]
      · rw [if_neg (fun z => hl z.2), List.getElem?_eq_none (by rw [List.length_set, L2.wipe_length]; omega), List.getElem?_eq_none (by omega)]
    · rw [List.getElem?_set_ne e, wipe_get vs σ j]
      by_cases h1 : j ∈ vs ∧ j < σ.length
      · rw [if_pos h1, if_pos ⟨List.mem_cons_of_mem _ h1.1, h1.2⟩]
      · rw [if_neg h1, if_neg]
        rintro ⟨h2, h3⟩
        rcases List.mem_cons.mp h2 with z | z
        · exact e z.symm
        · exact h1 ⟨z, h3⟩
theorem wipe_wipe (vs : List Nat) (σ : L2.St) : L2.wipe (L2.wipe σ vs) vs = L2.wipe σ vs := by
  apply List.ext_getElem?
  intro j
  rw [wipe_get, wipe_get, L2.wipe_length]
  by_cases h : j ∈ vs ∧ j < σ.length
  · rw [if_pos h, if_pos h]
  · rw [if_neg h]
theorem wipe_set {vs : List Nat} {σ : L2.St} {i : Nat} {x : Option V} (h : i ∈ vs) : L2.wipe (σ.set i x) vs = L2.wipe σ vs := by
  apply List.ext_getElem?
  intro j
  rw [wipe_get, wipe_get, List.length_set]
  by_cases hj : j ∈ vs ∧ j < σ.length
  · rw [if_pos hj, if_pos hj]
  · rw [if_neg hj, if_neg hj]
    by_cases e : i = j
    · subst e
      have : ¬ i < σ.length := fun z => hj ⟨h, z⟩
      rw [List.getElem?_eq_none (by rw [List.length_set]; omega), List.getElem?_eq_none (by omega)]
    · rw [List.getElem?_set_ne e]

/-! ### targets -/
def gNames : List Nat → TGs
  | [] => gNil
  | i :: is => gCons (gName i) (gNames is)
def gT (K : PySem.W.Frag) : Tg → TG
  | .one i => gName i
  | .tup is => gTup K is.length (gNames is)
section
variable {K : PySem.W.Frag} {mg : Str → Option Value} {H0 G0 H G : Hp}
theorem names_ok : ∀ {is : List Nat} {ρ : List Sl} {σ : L2.St} {vs : List V} {ds : List D} {Q : L2.St → Hp → Prop}, Ok K mg H0 G0 ρ σ H G → RpA K mg G vs ds → is.length = ds.length →
    (∀ σ', Ok K mg H0 G0 (setAll ρ is ds) σ' H G → (∀ ws : List Nat, (∀ i ∈ is, i ∈ ws) → L2.wipe σ' ws = L2.wipe σ ws) → Q σ' H) → gNames is vs σ H Q := by
  intro is
  induction is with
  | nil =>
    intro ρ σ vs ds Q o r hl h
    cases r with
    | nil => exact ⟨rfl, h σ o fun _ _ => rfl⟩
    | cons _ _ => cases hl
  | cons i is ih =>
    intro ρ σ vs ds Q o r hl h
    cases r with
    | nil => cases hl
    | cons r rs =>
      refine ⟨_, _, rfl, ?_⟩
      refine ih (o.set i r) rs (by simpa using hl) fun σ' o' hw => h σ' o' fun ws hm => ?_
      rw [hw ws fun j hj => hm j (List.mem_cons_of_mem _ hj)]
      exact wipe_set (hm i List.mem_cons_self)
theorem bind_ok {t : Tg} {ρ ρ' : List Sl} {σ : L2.St} {v : V} {d : D} {Q : L2.St → Hp → Prop} (o : Ok K mg H0 G0 ρ σ H G) (r : Rp K mg G v d) (e : bindT ρ t d = some ρ')
    (h : ∀ σ', Ok K mg H0 G0 ρ' σ' H G → L2.wipe σ' t.slots = L2.wipe σ t.slots → Q σ' H) : gT K t v σ H Q := by
  cases t with
  | one i =>
    cases Option.some.inj e
    exact h _ (o.set i r) (wipe_set List.mem_cons_self)
  | tup is =>
    cases d with
    | tuple ds =>
      simp only [bindT] at e
      split at e
      · rename_i hl
        cases Option.some.inj e
        cases r with
        | tup hs hz ha => exact ⟨_, _, rfl, sqT_mono o.same hs, by rw [ha.length]; exact hl.symm, names_ok o ha hl fun σ' o' hw => h σ' o' (hw _ fun _ z => z)⟩
      · cases e
    | _ => cases e
end
def chkN (N : List Str) (sc : Scope) (fl : Str → Bool) (e : Expr) (i : Nat) : Bool := match e with
  | .Name x _ => (match N[i]? with | some y => decide (y = x) | none => false) && locB sc x && fl x
  | _ => false
def chkNs (N : List Str) (sc : Scope) (fl : Str → Bool) : List Expr → List Nat → Bool
  | [], [] => true
  | e :: es, i :: is => chkN N sc fl e i && chkNs N sc fl es is
  | _, _ => false
def chkT (N : List Str) (sc : Scope) (fl : Str → Bool) (e : Expr) : Tg → Bool
  | .one i => chkN N sc fl e i
  | .tup is => match e with
    | .Tuple es _ _ => chkNs N sc fl es is
    | _ => false
section
variable {L : Lg} {k : Nat} {N : List Str} {sc : Scope} {fl : Str → Bool} {W : WX} {X : Cx}
theorem chkN_ok (c : Ctx L k N sc fl W X) {e : Expr} {i : Nat} (h : chkN N sc fl e i = true) : PG X e (gName i) ∧ ∃ x p, e = .Name x p ∧ N[i]? = some x := by
  cases e <;> try (cases h; done)
  rename_i x p
  simp only [chkN, Bool.and_eq_true] at h
  obtain ⟨⟨h1, h2⟩, h3⟩ := h
  have h1' : N[i]? = some x := by
    split at h1
    · rename_i y e; rw [e, of_decide_eq_true h1]
    · cases h1
  exact ⟨pg_name (by rw [c.hN]; exact c.nd) (by rw [c.hN]; exact h1') (c.loc h2) (c.fn x h3), x, p, rfl, h1'⟩
theorem chkNs_ok (c : Ctx L k N sc fl W X) : ∀ {es : List Expr} {is : List Nat}, chkNs N sc fl es is = true → PGs X es (gNames is) ∧ (assignEach es X.env).length = is.length ∧ (assignEach es X.env).findIdx? (·.1) = none
  | [], [], _ => ⟨pgs_nil, rfl, rfl⟩
  | e :: es, i :: is, h => by
    simp only [chkNs, Bool.and_eq_true] at h
    obtain ⟨h1, h2⟩ := h
    obtain ⟨g, x, p, rfl, _⟩ := chkN_ok c h1
    obtain ⟨gs, hl, hf⟩ := chkNs_ok c h2
    have e1 : assignEach (.Name x p :: es) X.env = (false, assign (.Name x p) X.env) :: assignEach es X.env := rfl
    refine ⟨pgs_cons g gs (by rw [e1]; rfl), by rw [e1, List.length_cons, hl, List.length_cons], ?_⟩
    rw [e1, List.findIdx?_cons, hf]
    rfl
  | [], _ :: _, h => by cases h
  | _ :: _, [], h => by cases h
theorem chkT_ok (c : Ctx L k N sc fl W X) {e : Expr} {t : Tg} (h : chkT N sc fl e t = true) : PG X e (gT X.K t) := by
  cases t with
  | one i => exact (chkN_ok c h).1
  | tup is =>
    cases e <;> try (cases h; done)
    obtain ⟨gs, hl, hf⟩ := chkNs_ok c h
    exact pg_tup c.calm gs hl hf
end

/-! ### walks -/
section
variable {K : PySem.W.Frag} {mg : Str → Option Value} {G : Hp}
theorem src_list {a : Addr} {xs : List V} {ds : List D} (hs : SqL K G a xs) (ha : RpA K mg G xs ds) : Src K mg (Itl K a) G ds where
  go := fun i H hi s => by
    have hx : i < xs.length := by rw [ha.length]; exact hi
    exact ⟨xs, xs[i], sqL_mono s hs, List.getElem?_eq_getElem hx⟩
  stop := fun H s => ⟨xs, sqL_mono s hs, by rw [ha.length]; exact Nat.le_refl _⟩
  yld := fun i H x H' G1 d hd s1 s2 y => by
    obtain ⟨rfl, y2⟩ := y
    have hx := y2 xs (sqL_mono s2 (sqL_mono s1 hs))
    obtain ⟨d', hd', r⟩ := ha.get hx
    rw [hd] at hd'
    cases Option.some.inj hd'
    exact ⟨G1, Gr.refl s2, Rp.mono s1 _ _ r⟩
theorem src_tup {a : Addr} {xs : List V} {ds : List D} (hs : SqT K G a xs) (ha : RpA K mg G xs ds) : Src K mg (Itt K a) G ds where
  go := fun i H hi s => by
    have hx : i < xs.length := by rw [ha.length]; exact hi
    exact ⟨xs, xs[i], sqT_mono s hs, List.getElem?_eq_getElem hx⟩
  stop := fun H s => ⟨xs, sqT_mono s hs, by rw [ha.length]; exact Nat.le_refl _⟩
  yld := fun i H x H' G1 d hd s1 s2 y => by
    obtain ⟨rfl, y2⟩ := y
    have hx := y2 xs (sqT_mono s2 (sqT_mono s1 hs))
    obtain ⟨d', hd', r⟩ := ha.get hx
    rw [hd] at hd'
    cases Option.some.inj hd'
    exact ⟨G1, Gr.refl s2, Rp.mono s1 _ _ r⟩
theorem src_str {z : Str} : Src K mg (Its z) G (sgn z) where
  go := fun i H hi s => by
    unfold sgn at hi
    rw [List.length_map, Array.length_toList] at hi
    exact hi
  stop := fun H s => by
    unfold sgn
    rw [List.length_map, Array.length_toList]
    exact Nat.le_refl _
  yld := fun i H x H' G1 d hd s1 s2 y => by
    obtain ⟨rfl, c, hc, rfl⟩ := y
    unfold sgn at hd
    rw [List.getElem?_map, Array.getElem?_toList, hc] at hd
    cases Option.some.inj hd
    exact ⟨G1, Gr.refl s2, .str _ (show 1 ≤ 1000000 by decide)⟩
theorem upto_get : ∀ (n : Nat) (lo : Int) (i : Nat), (upto lo n)[i]? = if i < n then some (PyData.int (lo + i)) else none
  | 0, lo, i => by simp [upto]
  | n + 1, lo, 0 => by simp [upto]
  | n + 1, lo, i + 1 => by
    have := upto_get n (lo + 1) i
    simp only [upto, List.getElem?_cons_succ, this]
    by_cases h : i < n
    · rw [if_pos h, if_pos (by omega)]
      congr 2
      omega
    · rw [if_neg h, if_neg (by omega)]
theorem upto_len : ∀ (n : Nat) (lo : Int), (upto lo n).length = n
  | 0, _ => rfl
  | n + 1, lo => by simp only [upto, List.length_cons, upto_len n]
theorem uptoC_get : ∀ (n : Nat) (lo c : Int) (i : Nat), (uptoC lo c n)[i]? = if i < n then some (PyData.int (lo + i * c)) else none
  | 0, lo, c, i => by simp [uptoC]
  | n + 1, lo, c, 0 => by simp [uptoC]
  | n + 1, lo, c, i + 1 => by
    have := uptoC_get n (lo + c) c i
    simp only [uptoC, List.getElem?_cons_succ, this]
    by_cases h : i < n
    · rw [if_pos h, if_pos (by omega)]
      congr 2
      have : ((i + 1 : Nat) : Int) * c = (i : Int) * c + c := by rw [Int.natCast_add, Int.add_mul]; simp
      rw [this]
      omega
    · rw [if_neg h, if_neg (by omega)]
theorem uptoC_len : ∀ (n : Nat) (lo c : Int), (uptoC lo c n).length = n
  | 0, _, _ => rfl
  | n + 1, lo, c => by simp only [uptoC, List.length_cons, uptoC_len n]
theorem src_rng {lo : Int} {n : Nat} : Src K mg (Itr lo n) G (upto lo n) where
  go := fun i H hi s => by rw [upto_len] at hi; exact hi
  stop := fun H s => by rw [upto_len]; exact Nat.le_refl _
  yld := fun i H x H' G1 d hd s1 s2 y => by
    obtain ⟨rfl, rfl⟩ := y
    rw [upto_get] at hd
    split at hd
    · cases Option.some.inj hd
      exact ⟨G1, Gr.refl s2, .int _⟩
    · cases hd
theorem src_rngC {lo c : Int} {n : Nat} : Src K mg (Itc lo c n) G (uptoC lo c n) where
  go := fun i H hi s => by rw [uptoC_len] at hi; exact hi
  stop := fun H s => by rw [uptoC_len]; exact Nat.le_refl _
  yld := fun i H x H' G1 d hd s1 s2 y => by
    obtain ⟨rfl, rfl⟩ := y
    rw [uptoC_get] at hd
    split at hd
    · cases Option.some.inj hd
      exact ⟨G1, Gr.refl s2, .int _⟩
    · cases hd
end
/-- anything that a for walks by its value -/
def iAny (K : PySem.W.Frag) (tl : TE) : TI := fun σ H R => tl σ H fun x H1 => (∃ a, x = .ref a ∧ (∃ xs, SqL K H1 a xs) ∧ R (Itl K a) H1) ∨ (∃ a, x = .ref a ∧ (∃ xs, SqT K H1 a xs) ∧ R (Itt K a) H1) ∨ ∃ z, x = .str z ∧ R (Its z) H1
theorem pi_any {X : Cx} {tg l : Expr} {tl : TE} (hl : PE X l tl) : PI X tg l (iAny X.K tl) := by
  refine ⟨fun pins s σ H R I h => ?_⟩
  refine thn (hl.run pins s σ H _ I h) fun v s1 ⟨x, H1, I1, r1, q1⟩ => ?_
  rcases q1 with ⟨a, e, ⟨xs, hq⟩, q⟩ | ⟨a, e, ⟨xs, hq⟩, q⟩ | ⟨z, e, q⟩
  · subst e
    cases r1
    obtain ⟨its, rv, p, hz⟩ := I1.list hq
    refine wpAny_pyIter_list p.isList ?_
    refine ⟨s1.heap.objs.size, [s1.heap.objs.size], _, _, H1, rfl, I1.kept (t' := s1.toks) fun b o e => Heap.get?_push_of_some _ e, turn_list a _, ⟨_, Heap.get?_push_size _ rfl, rfl, rfl⟩, fun b hb => ?_, q⟩
    have e : b = s1.heap.objs.size := by simpa using hb
    subst e
    exact I1.fpOk (Nat.le_refl _) (I1.hok.fresh (Nat.le_refl _))
  · subst e
    cases r1
    obtain ⟨its, rv, p, hz⟩ := I1.tuple hq
    refine wpAny_pyIter_tuple (show s1.heap.IsTuple a its.toArray from p) ?_
    refine ⟨s1.heap.objs.size, [s1.heap.objs.size], _, _, H1, rfl, I1.kept (t' := s1.toks) fun b o e => Heap.get?_push_of_some _ e, turn_tuple a _, ⟨_, Heap.get?_push_size _ rfl, rfl, rfl⟩, fun b hb => ?_, q⟩
    have e : b = s1.heap.objs.size := by simpa using hb
    subst e
    exact I1.fpOk (Nat.le_refl _) (I1.hok.fresh (Nat.le_refl _))
  · subst e
    obtain ⟨t, rfl⟩ := r1
    cases ha : z.cps.all (· < 128)
    · exact wpAny_pyIter_wide ha (pi_one (tk := s1.toks) I1 _ (turn_str _ z t "str_iterator" (.inr rfl)) ⟨_, Heap.get?_push_size _ rfl, rfl, rfl⟩ q)
    · exact wpAny_pyIter_ascii ha (pi_one (tk := s1.toks) I1 _ (turn_str _ z t "str_ascii_iterator" (.inl rfl)) ⟨_, Heap.get?_push_size _ rfl, rfl, rfl⟩ q)
section
variable {L : Lg} {k : Nat} {N : List Str} {sc : Scope} {fl : Str → Bool} {W : WX} {X : Cx}
/-- a source that is frozen: strict -/
theorem s_it {tg e : Expr} {x : Ex} (he : PE X e (TEx X.K X.mg L W x)) (hst : x.st = true) : PI X tg e (TRx X.K X.mg L W (.it x)) := by
  refine PI.imp (pi_any he) fun σ H R h => ?_
  obtain ⟨H0, G0, ρ, G, o, h⟩ := h
  simp only [evR] at h
  refine run_ex (B := fun r H G => WnR X.K X.mg L W σ H G r R) o h (fun _ h => h) (fun h => h) (fun _ _ _ g h => h.grow g) fun d v H1 G1 g1 o1 r1 h1 => ?_
  rw [hst] at r1
  have r1 : Rp X.K X.mg G1 v d := r1
  cases d with
  | list ds =>
    cases r1 with
    | lst hs hz ha => exact .inl ⟨_, rfl, ⟨_, SqL.of (o1.same _ _ hs)⟩, h1 _ H1 G1 (Gr.refl o1.same) (src_list (SqL.of hs) ha) hz⟩
  | tuple ds =>
    cases r1 with
    | tup hs hz ha => exact .inr (.inl ⟨_, rfl, ⟨_, sqT_mono o1.same hs⟩, h1 _ H1 G1 (Gr.refl o1.same) (src_tup hs ha) hz⟩)
  | str z =>
    cases r1 with
    | str _ hz => exact .inr (.inr ⟨z, rfl, h1 _ H1 G1 (Gr.refl o1.same) src_str (by unfold sgn; rw [List.length_map, Array.length_toList]; exact hz)⟩)
  | _ => exact h1.elim
theorem WnR.ofO {K : PySem.W.Frag} {mg : Str → Option Value} {σ : L2.St} {H G : Hp} {R : It → Hp → Prop} {r : Option (List D)} (h : WnR K mg L W σ H G (.ofO r) R) : ∃ ds, r = some ds ∧ ∀ J H' G', Gr H G H' G' → Src K mg J G' ds → ds.length ≤ 1000000 → R J H' := by
  cases r with
  | none => exact h.elim
  | some d => exact ⟨d, rfl, h⟩
theorem RsA.three {K : PySem.W.Frag} {mg : Str → Option Value} {G H : Hp} {vs : List V} {d e f : D} (h : RsA K mg G H vs [d, e, f]) : ∃ u v w, vs = [u, v, w] ∧ Rs K mg G H u d ∧ Rs K mg G H v e ∧ Rs K mg G H w f := by
  cases h with | cons h1 t => cases t with | cons h2 t => cases t with | cons h3 t => cases t; exact ⟨_, _, _, rfl, h1, h2, h3⟩
theorem s_rng1 (c : Ctx L k N sc fl W X) {tg a : Expr} {xs : Exs} {p pos : Pos} (hg : glB sc "range" = true) (hn : noStar a = true) (hl : xs.len = 1) (ha : PA X [a] (TAx X.K X.mg L W xs)) : PI X tg (.Call (.Name "range" p) [a] [] pos) (TRx X.K X.mg L W (.rng xs)) := by
  refine PI.imp (pi_range1 (c.gl hg) (c.blt _ (by decide)) ha (star1 hn)) fun σ H R h => ?_
  obtain ⟨H0, G0, ρ, G, o, h⟩ := h
  simp only [evR] at h
  refine ⟨H0, G0, ρ, G, o, ?_⟩
  cases e : evL L.U L.cl ρ xs with
  | no => rw [e] at h; exact h
  | ex c => rw [e] at h; exact h
  | ok ds =>
    rw [e] at h
    intro vs H1 G1 g1 r1 _
    have h1 := h.grow g1
    have hd := evL_len e
    obtain ⟨is, e2, h2⟩ := h1.ofO
    unfold rngD at e2
    split at e2
    · split at e2
      · rename_i hj
        cases Option.some.inj e2
        obtain ⟨v, rfl, hv⟩ := r1.one
        exact ⟨_, by rw [hv.int], by omega, by omega, h2 _ H1 G1 (Gr.refl g1.s) src_rng (by rw [upto_len]; omega)⟩
      · cases e2
    · simp only [List.length_cons, List.length_nil] at hd; omega
    · simp only [List.length_cons, List.length_nil] at hd; omega
    · cases e2
theorem s_rng2 (c : Ctx L k N sc fl W X) {tg a b : Expr} {xs : Exs} {p pos : Pos} (hg : glB sc "range" = true) (hn : noStar a = true) (hn2 : noStar b = true) (hl : xs.len = 2) (ha : PA X [a, b] (TAx X.K X.mg L W xs)) : PI X tg (.Call (.Name "range" p) [a, b] [] pos) (TRx X.K X.mg L W (.rng xs)) := by
  refine PI.imp (pi_range2 (c.gl hg) (c.blt _ (by decide)) ha (by rw [star1 hn, star1 hn2]; rfl) (star1 hn2)) fun σ H R h => ?_
  obtain ⟨H0, G0, ρ, G, o, h⟩ := h
  simp only [evR] at h
  refine ⟨H0, G0, ρ, G, o, ?_⟩
  cases e : evL L.U L.cl ρ xs with
  | no => rw [e] at h; exact h
  | ex c => rw [e] at h; exact h
  | ok ds =>
    rw [e] at h
    intro vs H1 G1 g1 r1 _
    have h1 := h.grow g1
    have hd := evL_len e
    obtain ⟨is, e2, h2⟩ := h1.ofO
    unfold rngD at e2
    split at e2
    · simp only [List.length_cons, List.length_nil] at hd; omega
    · split at e2
      · rename_i hj
        cases Option.some.inj e2
        obtain ⟨v, w, rfl, hv, hw⟩ := r1.two
        exact ⟨_, _, by rw [hv.int, hw.int], ⟨by omega, by omega, by omega, by omega⟩, h2 _ H1 G1 (Gr.refl g1.s) src_rng (by rw [upto_len]; omega)⟩
      · cases e2
    · simp only [List.length_cons, List.length_nil] at hd; omega
    · cases e2
theorem turns_eq (i j c : Int) (hc : c ≠ 0) : Builtin.Range.rangeSize i j c = turns i j c := by
  unfold Builtin.Range.rangeSize turns
  by_cases h : c > 0
  · rw [if_pos h]
    by_cases h2 : i < j
    · rw [if_pos h2]
      have : 0 ≤ (j - i - 1) / c := Int.ediv_nonneg (by omega) (by omega)
      omega
    · rw [if_neg h2]; rfl
  · rw [if_neg h]
    by_cases h2 : i > j
    · rw [if_pos h2]
      have : 0 ≤ (i - j - 1) / (-c) := Int.ediv_nonneg (by omega) (by omega)
      omega
    · rw [if_neg h2]; rfl
theorem small_ok {i j c : Int} (h1 : -1000000 ≤ i) (h2 : i ≤ 1000000) (h3 : -1000000 ≤ j) (h4 : j ≤ 1000000) (h5 : c ≠ 0) (h6 : -1000 ≤ c) (h7 : c ≤ 1000) (h8 : turns i j c ≤ 1000000) : Builtin.Range.small i j c = true := by
  unfold Builtin.Range.small
  rw [turns_eq i j c h5]
  have e := turns_eq i j c h5
  have ff : ∀ z : Int, -(2 ^ 63) ≤ z → z < 2 ^ 63 → Builtin.Range.rangeFitsLong z = true := fun z a b => by
    unfold Builtin.Range.rangeFitsLong
    rw [decide_eq_true a, decide_eq_true b]
    rfl
  have f5 : (if c > 0 then Builtin.Range.rangeFitsLong (j + (c - 1)) else Builtin.Range.rangeFitsLong (j + (c + 1))) = true := by
    split
    · exact ff _ (by omega) (by omega)
    · exact ff _ (by omega) (by omega)
  rw [ff i (by omega) (by omega), ff j (by omega) (by omega), ff c (by omega) (by omega), ff _ (by omega) (by omega), f5, Bool.or_true]
  rfl
theorem s_rng3 (c : Ctx L k N sc fl W X) {tg a b d : Expr} {xs : Exs} {p pos : Pos} (hg : glB sc "range" = true) (hn : noStar a = true) (hn2 : noStar b = true) (hn3 : noStar d = true) (hl : xs.len = 3) (ha : PA X [a, b, d] (TAx X.K X.mg L W xs)) : PI X tg (.Call (.Name "range" p) [a, b, d] [] pos) (TRx X.K X.mg L W (.rng xs)) := by
  refine PI.imp (pi_range3 (c.gl hg) (c.blt _ (by decide)) ha (star1 hn) (stars (by simp [hn2, hn3]) pos)) fun σ H R h => ?_
  obtain ⟨H0, G0, ρ, G, o, h⟩ := h
  simp only [evR] at h
  refine ⟨H0, G0, ρ, G, o, ?_⟩
  cases e : evL L.U L.cl ρ xs with
  | no => rw [e] at h; exact h
  | ex c => rw [e] at h; exact h
  | ok ds =>
    rw [e] at h
    intro vs H1 G1 g1 r1 _
    have h1 := h.grow g1
    have hd := evL_len e
    obtain ⟨is, e2, h2⟩ := h1.ofO
    unfold rngD at e2
    split at e2
    · simp only [List.length_cons, List.length_nil] at hd; omega
    · simp only [List.length_cons, List.length_nil] at hd; omega
    · split at e2
      · rename_i hj
        cases Option.some.inj e2
        obtain ⟨u, v, w, rfl, hu, hv, hw⟩ := r1.three
        obtain ⟨j1, j2, j3, j4, j5, j6, j7, j8⟩ := hj
        exact ⟨_, _, _, _, by rw [hu.int, hv.int, hw.int], ⟨j5, by omega, small_ok j1 j2 j3 j4 j5 j6 j7 j8, turns_eq _ _ _ j5⟩, h2 _ H1 G1 (Gr.refl g1.s) src_rngC (by rw [uptoC_len]; exact j8)⟩
      · cases e2
    · cases e2
end
end Bg

set_option Elab.async false
set_option linter.all false
set_option maxRecDepth 100000
set_option maxHeartbeats 4000000
/-! Lists that are one's own; comprehensions; methods; calls of a local. -/
namespace Bg
open PySem PySem.Spec L2

section
variable {K : PySem.W.Frag} {mg : Str → Option Value} {H G : Hp}
/-- what is wanted behind the making of a list that is one's own -/
def FinO (K : PySem.W.Frag) (mg : Str → Option Value) (H G : Hp) (Q : VK) (ds : List D) : Prop :=
  ∀ p H' G' xs, Gr H G H' G' → H p = none → H' p = some (.lst xs) → G' p = none → RpA K mg G' xs ds → ds.length ≤ 1000000 → Q (.ref p) H'
theorem Gr.freeze {H' G' : Hp} {p : Addr} {xs : List V} (g : Gr H G H' G') (hp : H p = none) (hx : H' p = some (.lst xs)) (hg : G' p = none) : Gr H G H' (upd G' p (.lst xs)) where
  h := g.h
  g := fun a o e => by rw [upd_ne (ne_of_none (g.g a o e) hg)]; exact g.g a o e
  f := fun a h1 h2 => by rw [upd_ne (fun e : a = p => h2 (by rw [e]; exact hp))]; exact g.f a h1 h2
  s := fun a o e => by
    by_cases q : a = p
    · subst q; rw [upd_same] at e; cases e; exact hx
    · rw [upd_ne q] at e; exact g.s a o e
theorem Fin.toO {Q : VK} {ds : List D} (f : Fin K mg H G Q (.list ds)) : FinO K mg H G Q ds := fun p H' G' xs g hp hx hg ra hz =>
  f (.ref p) H' (upd G' p (.lst xs)) (g.freeze hp hx hg) (.lst upd_same hz (RpA.mono (same_new hg) _ _ ra))
end
section
variable (K : PySem.W.Frag) (mg : Str → Option Value) (L : Lg) (W : WX)
def WnF (σ : L2.St) (H G : Hp) (r : Res D) (Q : VK) : Prop := match r with
  | .ok (.list ds) => FinO K mg H G Q ds
  | .ok _ => False
  | .ex c => ∀ H' G', Gr H G H' G' → W (.ref (L.ec c)) none σ H'
  | .no => False
def TFx (x : Ex) : TE := fun σ H Q => ∃ H0 G0 ρ G, Ok K mg H0 G0 ρ σ H G ∧ WnF K mg L W σ H G (evE L.U L.cl ρ x) Q
def TCx (x : Oc) : TT := fun σ H Q => ∃ H0 G0 ρ G, Ok K mg H0 G0 ρ σ H G ∧ WnB L W σ H G (evC L.U L.cl ρ x) Q
end
abbrev WF : WX := fun _ _ _ _ => False
section
variable {L : Lg} {k : Nat} {N : List Str} {sc : Scope} {fl : Str → Bool} {W : WX} {X : Cx}
theorem TEx.toF {K : PySem.W.Frag} {mg : Str → Option Value} {x : Ex} {σ : L2.St} {H : Hp} {Q : VK} (hl : ∀ ρ d, evE L.U L.cl ρ x = .ok d → ∃ ds, d = .list ds) (h : TEx K mg L W x σ H Q) : TFx K mg L W x σ H Q := by
  obtain ⟨H0, G0, ρ, G, o, h⟩ := h
  refine ⟨H0, G0, ρ, G, o, ?_⟩
  cases e : evE L.U L.cl ρ x with
  | no => rw [e] at h; exact h
  | ex c => rw [e] at h; exact h
  | ok d =>
    rw [e] at h
    obtain ⟨ds, rfl⟩ := hl ρ d e
    exact h.fin.toO
theorem s_lstF {es : List Expr} {xs : Exs} {pos : Pos} (h : PA X es (TAx X.K X.mg L W xs)) (hst : xs.allSt = true) (hl : xs.len ≤ 1000) : PE X (.List es pos) (TFx X.K X.mg L W (.lst xs)) := by
  refine PE.imp (pe_lst h) fun σ H Q h => ?_
  obtain ⟨H0, G0, ρ, G, o, h⟩ := h
  simp only [evE] at h
  refine ⟨H0, G0, ρ, G, o, ?_⟩
  cases e : evL L.U L.cl ρ xs with
  | no => rw [e] at h; exact h
  | ex c => rw [e] at h; exact h
  | ok ds =>
    rw [e] at h
    have h : FinO X.K X.mg H G Q ds := h
    intro vs H1 G1 g1 r1 q1
    have hd := evL_len e
    have hv := (q1 hst).length
    refine ⟨le_sl (by omega), fun p hp => ?_⟩
    have hG : G1 p = none := none_of g1.s hp
    exact h p (upd H1 p (.lst vs)) G1 vs (g1.trans (Gr.own g1.s _ hp)) (g1.h.free hp) upd_same hG (q1 hst) (by omega)

/-! ### comprehensions -/
theorem s_oc0 : PTs X [] (TCx X.K X.mg L W .no) := ⟨fun pins s σ H Q I h => by
  obtain ⟨H0, G0, ρ, G, o, h⟩ := h
  simp only [evC] at h
  exact pts_nil.run pins s σ H Q I (h H G (Gr.refl o.same))⟩
theorem s_oc1 {e : Expr} {x : Ex} (h : PT X e (TTx X.K X.mg L W x)) : PTs X [e] (TCx X.K X.mg L W (.some x)) := ⟨fun pins s σ H Q I h' => by
  obtain ⟨H0, G0, ρ, G, o, h'⟩ := h'
  simp only [evC] at h'
  exact (pts_one h).run pins s σ H Q I ⟨H0, G0, ρ, G, o, h'⟩⟩
theorem collect_len {f : D → Res (Option D)} : ∀ {ds es : List D}, collect f ds = .ok es → es.length ≤ ds.length
  | [], _, h => by cases h; exact Nat.le_refl _
  | d :: ds, es, h => by
    simp only [collect] at h
    obtain ⟨o, _, h⟩ := bind_ok_inv h
    obtain ⟨r, h2, h⟩ := bind_ok_inv h
    have := collect_len h2
    cases o with
    | some y => cases h; simp only [List.length_cons]; omega
    | none => cases h; simp only [List.length_cons]; omega
theorem calm_ok {α : Type} {r : Res α} {a : α} (h : calm r = .ok a) : r = .ok a := by
  cases r with
  | ok b => exact h
  | ex c => cases h
  | no => cases h
def lcF (L : Lg) (ρ : List Sl) (t : Tg) (c : Oc) (e : Ex) (d : D) : Res (Option D) := match bindT (wipeR ρ t.slots) t d with
  | some ρ' => (calm (evC L.U L.cl ρ' c)).bind fun k => match k with
    | true => (calm (evE L.U L.cl ρ' e)).bind fun y => .ok (some y)
    | false => .ok none
  | none => .no
theorem lc_imp {t : Tg} {s : Sr} {c : Oc} {e : Ex} {σ : L2.St} {H : Hp} {Q : VK} {K : PySem.W.Frag} {mg : Str → Option Value} (hst : e.st = true) (h : TFx K mg L W (.lc t s c e) σ H Q) :
    tLc (TRx K mg L W s) (gT K t) (TCx K mg L WF c) (TEx K mg L WF e) t.slots σ H Q := by
  obtain ⟨H0, G0, ρ, G, o, h⟩ := h
  simp only [evE] at h
  refine ⟨H0, G0, ρ, G, o, ?_⟩
  cases er : evR L.U L.cl ρ s with
  | no => rw [er] at h; exact h
  | ex c => rw [er] at h; exact h
  | ok items =>
    rw [er] at h
    intro J H1 G1 g1 src hlen
    simp only [Res.bind_ok] at h
    have h : WnF K mg L W σ H G ((collect (lcF L ρ t c e) items).bind fun ds => Res.ok (PyData.list ds)) Q := h
    cases ec : collect (lcF L ρ t c e) items with
    | no =>
      exfalso
      rw [ec] at h
      exact h
    | ex z =>
      exfalso
      have noex : ∀ ds, collect (lcF L ρ t c e) ds ≠ .ex z := by
        intro ds
        induction ds with
        | nil => intro q; cases q
        | cons d ds ih =>
          intro q
          simp only [collect] at q
          cases q1 : lcF L ρ t c e d with
          | no => rw [q1] at q; cases q
          | ok a =>
            rw [q1] at q
            simp only [Res.bind_ok] at q
            cases q2 : collect (lcF L ρ t c e) ds with
            | no => rw [q2] at q; cases q
            | ex y => rw [q2] at q; simp only [Res.bind_ex] at q; exact ih (by rw [q2]; exact q)
            | ok b => rw [q2] at q; cases a <;> cases q
          | ex y =>
            unfold lcF at q1
            split at q1
            · rename_i ρ' _
              cases q3 : calm (evC L.U L.cl ρ' c) with
              | no => rw [q3] at q1; cases q1
              | ex y => cases q4 : evC L.U L.cl ρ' c <;> rw [q4] at q3 <;> cases q3
              | ok b =>
                rw [q3] at q1
                cases b with
                | false => cases q1
                | true =>
                  simp only [Res.bind_ok] at q1
                  cases q5 : calm (evE L.U L.cl ρ' e) with
                  | no => rw [q5] at q1; cases q1
                  | ex y => cases q4 : evE L.U L.cl ρ' e <;> rw [q4] at q5 <;> cases q5
                  | ok b => rw [q5] at q1; cases q1
            · cases q1
      exact noex items ec
    | ok ds =>
      rw [ec] at h
      have h : FinO K mg H G Q ds := h
      intro D hD
      have o1 := (o.grow g1).wipe t.slots
      refine ⟨fun i m H2 => m = items.length - i ∧ i ≤ items.length ∧ ∃ G2 acc accd rest, Gr H1 G1 H2 G2 ∧ H2 D = some (.lst acc) ∧ G2 D = none ∧ RpA K mg G2 acc accd ∧ acc.length ≤ i ∧ collect (lcF L ρ t c e) (items.drop i) = .ok rest ∧ accd ++ rest = ds,
        ⟨items.length, by simp, Nat.zero_le _, G1, [], [], ds, Gr.own g1.s _ hD, upd_same, none_of g1.s hD, .nil, Nat.le_refl _, by rw [List.drop_zero]; exact ec, rfl⟩, ?_⟩
      rintro i m H2 ⟨rfl, hi, G2, acc, accd, rest, g2, hd2, gd2, ra, ha, hc, rfl⟩
      have s12 : Same G1 H2 := g2.g.trans g2.s
      by_cases hlt : i < items.length
      · refine .inr ⟨src.go i H2 hlt s12, fun H3 => ∃ G3 acc accd' rest', Gr H1 G1 H3 G3 ∧ H3 D = some (.lst acc) ∧ G3 D = none ∧ RpA K mg G3 acc accd' ∧ acc.length ≤ i + 1 ∧ collect (lcF L ρ t c e) (items.drop (i + 1)) = .ok rest' ∧ accd' ++ rest' = accd ++ rest,
          fun H3 ⟨G3, acc, accd', rest', p1, p2, p3, p4, p5, p6, p7⟩ => ⟨items.length - (i + 1), by omega, rfl, hlt, G3, acc, accd', rest', p1, p2, p3, p4, p5, p6, p7⟩, fun x H3 hy => ?_⟩
        have hdi : items[i]? = some items[i] := List.getElem?_eq_getElem hlt
        obtain ⟨G3, g3, rx⟩ := src.yld i H2 x H3 G2 _ hdi g2.g g2.s hy
        rw [List.drop_eq_getElem_cons hlt] at hc
        simp only [collect] at hc
        obtain ⟨oy, hf, hc⟩ := bind_ok_inv hc
        obtain ⟨rest', hr', hc⟩ := bind_ok_inv hc
        unfold lcF at hf
        split at hf
        · rename_i ρ' eb
          obtain ⟨b, hb, hf⟩ := bind_ok_inv hf
          have hb := calm_ok hb
          have o3 := o1.grow (g2.trans g3)
          refine bind_ok o3 rx eb fun σ2 o4 hw => ⟨hw.trans (wipe_wipe _ _), ?_⟩
          have hD3 : H3 D = some (.lst acc) := g3.h _ _ hd2
          have hG3 : G3 D = none := g3.f D gd2 (by rw [hd2]; exact fun z => by cases z)
          refine ⟨H0, G0, ρ', G3, o4, ?_⟩
          rw [hb]
          intro H4 G4 g4
          have hD4 : H4 D = some (.lst acc) := g4.h _ _ hD3
          have hG4 : G4 D = none := g4.f D hG3 (by rw [hD3]; exact fun z => by cases z)
          cases b with
          | true =>
            rw [if_pos rfl]
            obtain ⟨y, hy2, hf⟩ := bind_ok_inv hf
            have hy2 := calm_ok hy2
            cases hf
            cases hc
            refine ⟨H0, G0, ρ', G4, o4.grow g4, ?_⟩
            rw [hy2, hst]
            intro v H5 G5 g5 rv
            have rv : Rp K mg G5 v y := rv
            have hD5 : H5 D = some (.lst acc) := g5.h _ _ hD4
            have hG5 : G5 D = none := g5.f D hG4 (by rw [hD4]; exact fun z => by cases z)
            have g25 := ((g2.trans g3).trans g4).trans g5
            refine ⟨acc, hD5, Nat.lt_of_lt_of_le (show acc.length < 1000001 by omega) (by rw [sizeLine_eq]; decide), G5, acc ++ [v], accd ++ [y], rest', ?_, upd_same, hG5, ?_, ?_, hr', by rw [List.append_assoc]; rfl⟩
            · exact ⟨fun a u ea => by rw [upd_ne (ne_of_none ea hD)]; exact g25.h a u ea, g25.g, g25.f, fun a u ea => by rw [upd_ne (ne_of_none ea hG5)]; exact g25.s a u ea⟩
            · exact (RpA.mono ((g3.trans g4).trans g5).g _ _ ra).append (.one rv)
            · rw [List.length_append, List.length_cons, List.length_nil]; omega
          | false =>
            rw [if_neg Bool.false_ne_true]
            cases hf
            cases hc
            exact ⟨G4, acc, accd, _, (g2.trans g3).trans g4, hD4, hG4, RpA.mono (g3.trans g4).g _ _ ra, by omega, hr', rfl⟩
        · cases hf
      · have ei : i = items.length := by omega
        subst ei
        rw [List.drop_length] at hc
        cases hc
        refine .inl ⟨src.stop H2 s12, ?_⟩
        rw [List.append_nil] at h
        have hz := ra.length
        exact h D H2 G2 acc (g1.trans g2) (g1.h.free hD) hd2 gd2 ra (by omega)
def blkFl (scope : Scope) (x : Str) : Bool := match scope.names.lookup x with
  | some .local => true
  | some .cell => true
  | _ => false
theorem Ctx.blk (c : Ctx L k N sc fl W X) (s : Shared) (H : Hp) (C : Addr) (cl : List (Str × Addr)) (fp : List Addr) {scope : Scope} (hk : scope.kind = .function) :
    Ctx L k N (relS scope sc) (blkFl scope) WF (X.blk s H scope (compEnvC scope cl C X.env) fp) where
  hN := c.hN
  nd := c.nd
  calm := c.calm
  room := c.room
  hsc := by rw [← c.hsc]; rfl
  kind := hk
  fn := fun x h => by
    show (scope.names.lookup x == some .cell) = true ∨ (relS scope X.env.scope).names.lookup x = some .local
    unfold blkFl at h
    split at h
    · rename_i e
      exact .inr (lookup_relS_keep (by decide) e)
    · rename_i e
      exact .inl (by rw [e]; rfl)
    · cases h
  takes := takes0
  subC := c.subC
  subF := c.subF
  fns := c.fns
  fnT := c.fnT
  con := c.con
  blt := c.blt
  tpc := c.tpc
theorem s_lcF (c : Ctx L k N sc fl W X) {elt tg iter : Expr} {ifs : List Expr} {scope : Scope} {pos : Pos} {t : Tg} {s : Sr} {oc : Oc} {e : Ex} (hst : e.st = true) (hi : PI X tg iter (TRx X.K X.mg L W s)) (ok : blkC N sc scope (t.slots.map fun i => (N.getD i "", i)) = true) (hk : scope.kind = .function)
    (hg : ∀ Y, Ctx L k N (relS scope sc) (blkFl scope) WF Y → PG Y tg (gT Y.K t)) (ht : ∀ Y, Ctx L k N (relS scope sc) (blkFl scope) WF Y → PTs Y ifs (TCx Y.K Y.mg L WF oc))
    (he : ∀ Y, Ctx L k N (relS scope sc) (blkFl scope) WF Y → PE Y elt (TEx Y.K Y.mg L WF e)) (hs : ∀ x, foldedSetIterable iter X.env x = pure x) : PE X (.ListComp elt [⟨tg, iter, ifs, 0⟩] scope pos) (TFx X.K X.mg L W (.lc t s oc e)) := by
  have ok' : BlkOk X.N X.env.scope scope (t.slots.map fun i => (N.getD i "", i)) := by rw [c.hN, c.hsc]; exact blkOk_by ok
  refine PE.imp (pe_lc (own := t.slots.map fun i => (N.getD i "", i)) (g := gT X.K t) (tt := TCx X.K X.mg L WF oc) (te := TEx X.K X.mg L WF e) c.calm (by rw [c.hN]; exact c.nd) hi ok'
    (fun s H C cl fp => hg _ (c.blk s H C cl fp hk)) (fun s H C cl fp => ht _ (c.blk s H C cl fp hk)) (fun s H C cl fp => he _ (c.blk s H C cl fp hk)) hs) fun σ H Q h => ?_
  have es : (t.slots.map fun i => (N.getD i "", i)).map (·.2) = t.slots := by rw [List.map_map]; exact List.map_id' _
  rw [es]
  exact lc_imp hst h
theorem lc_list {t : Tg} {s : Sr} {c : Oc} {e : Ex} {ρ : List Sl} {d : D} (h : evE L.U L.cl ρ (.lc t s c e) = .ok d) : ∃ ds, d = .list ds := by
  simp only [evE] at h
  obtain ⟨_, _, h⟩ := bind_ok_inv h
  obtain ⟨ds, _, h⟩ := bind_ok_inv h
  cases h
  exact ⟨ds, rfl⟩
theorem lst_list {xs : Exs} {ρ : List Sl} {d : D} (h : evE L.U L.cl ρ (.lst xs) = .ok d) : ∃ ds, d = .list ds := by
  simp only [evE] at h
  obtain ⟨ds, _, h⟩ := bind_ok_inv h
  cases h
  exact ⟨ds, rfl⟩
end
end Bg

set_option Elab.async false
set_option linter.all false
set_option maxRecDepth 100000
set_option maxHeartbeats 4000000
/-! Methods of built-in things. -/
namespace Bg
open PySem PySem.Spec L2

def basePlain : Expr → Bool
  | .Call (.Name _ _) [] [] _ => false
  | _ => true
theorem base_ok {o : Expr} {attr : Str} {env : Env} {whole : Sem Value} (h : basePlain o = true) : attributeBase o attr env whole = whole := by
  unfold attributeBase
  split
  · cases h
  · rfl
theorem few_ok {es : List Expr} {env : Env} {pos : Pos} (h : es.all noStar = true) (hl : es.length < 30) :
    ((backTo pos (starEach es env)).all (fun x => !x.1) && (backToKw pos (keywordEach [] env)).all (fun x => x.1.isSome) && decide (es.length + ([] : List Keyword).length + (if ([] : List Keyword).isEmpty then 0 else 1) < 30)) = true := by
  have h1 : (backTo pos (starEach es env)).all (fun x => !x.1) = true := by
    induction es with
    | nil => rfl
    | cons e es ih =>
      rw [List.all_cons, Bool.and_eq_true] at h
      rw [star1 h.1]
      have := ih h.2 (by simp only [List.length_cons] at hl; omega)
      unfold backTo at this ⊢
      rw [List.map_cons, List.all_cons, this]
      rfl
  rw [h1]
  have h2 : decide (es.length + ([] : List Keyword).length + (if ([] : List Keyword).isEmpty then 0 else 1) < 30) = true := decide_eq_true (by simpa using hl)
  rw [h2]
  rfl
section
variable {L : Lg} {k : Nat} {N : List Str} {sc : Scope} {fl : Str → Bool} {W : WX} {X : Cx}
/-- the receiver is a text or a list -/
theorem s_mtA {m : Mn} {T id : String} {name : Str} {apos cpos : Pos} (pa : PlainAttrs T) (slot : Slot T name id) (hty : typeOf (.builtin id) = pure (.type "method_descriptor")) (hm : MtR X id (rM X.K X.mg (mtd m)))
    {o : Expr} {es : List Expr} {x : Ex} {xs : Exs} (ho : PE X o (TEx X.K X.mg L W x)) (hrc : ∀ G H v d, Same G H → rcv m d = true → Rs X.K X.mg G H v d → tyV X.K T v H)
    (hb : basePlain o = true) (hns : es.all noStar = true) (hl : es.length < 30) (hline : (apos.endLine == cpos.line) = true) (hnil : es = [] → xs = .nil)
    (ha : PA X es (TAx X.K X.mg L W xs)) : PE X (.Call (.Attribute o name apos) es [] cpos) (TEx X.K X.mg L W (.mt m x xs)) := by
  cases es with
  | nil =>
    have hx0 := hnil rfl
    subst hx0
    refine PE.imp (pe_bm0 pa slot hty hm ho (base_ok hb) hline) fun σ H Q h => ?_
    obtain ⟨H0, G0, ρ, G, ok, h⟩ := h
    simp only [evE] at h
    refine ev1 ok h fun d v H1 G1 g1 o1 r1 h1 => ?_
    cases q : rcv m d with
    | false => rw [q] at h1; exact h1.elim
    | true =>
      rw [q] at h1
      simp only [evL, Res.bind_ok] at h1
      obtain ⟨z, ez, f⟩ := h1.ofO
      exact ⟨hrc G1 H1 v d o1.same q r1.rs, G1, d, [], z, o1.same, r1.rs, .nil, ez, f⟩
  | cons e es =>
    have hns' := hns
    rw [List.all_cons, Bool.and_eq_true] at hns'
    refine PE.imp (pe_bm pa slot hty hm ho ha (base_ok hb) (few_ok hns hl) hline (star1 hns'.1) (stars hns'.2 cpos)) fun σ H Q h => ?_
    obtain ⟨H0, G0, ρ, G, ok, h⟩ := h
    simp only [evE] at h
    refine ev1 ok h fun d v H1 G1 g1 o1 r1 h1 => ?_
    cases q : rcv m d with
    | false => rw [q] at h1; exact h1.elim
    | true =>
      rw [q] at h1
      refine ⟨hrc G1 H1 v d o1.same q r1.rs, ?_⟩
      refine evs o1 h1 fun ds vs H2 G2 g2 o2 r2 _ h2 => ?_
      obtain ⟨z, ez, f⟩ := h2.ofO
      exact ⟨G2, d, ds, z, o2.same, r1.rs.gr g2, r2, ez, f⟩
theorem rcv_str {K : PySem.W.Frag} {mg : Str → Option Value} {m : Mn} (hm : ∀ d, rcv m d = true → ∃ z, d = .str z) (G H : Hp) (v : V) (d : D) (s0 : Same G H) (h : rcv m d = true) (r : Rs K mg G H v d) : tyV K "str" v H := by
  obtain ⟨z, rfl⟩ := hm d h
  rw [r.str]
  rfl
theorem rcv_list {K : PySem.W.Frag} {mg : Str → Option Value} {m : Mn} (hm : ∀ d, rcv m d = true → ∃ z, d = .list z) (G H : Hp) (v : V) (d : D) (s0 : Same G H) (h : rcv m d = true) (r : Rs K mg G H v d) : tyV K "list" v H := by
  obtain ⟨z, rfl⟩ := hm d h
  obtain ⟨p, xs, rfl, hp, _⟩ := r.lst s0
  exact .inl ⟨rfl, xs, SqL.of hp⟩
/-- the name, the type and the identity of a method -/
def mName : Mn → Str
  | .indexS => "index" | .indexL => "index" | .indexT => "index" | .countS => "count" | .countL => "count" | .join => "join" | .strip => "strip" | .lstrip => "lstrip" | .rstrip => "rstrip"
  | .upper => "upper" | .find => "find" | .split => "split" | .partition => "partition"
theorem s_meth (c : Ctx L k N sc fl W X) {m : Mn} (hmT : m ≠ .indexT) {apos cpos : Pos} {o : Expr} {es : List Expr} {x : Ex} {xs : Exs} (ho : PE X o (TEx X.K X.mg L W x))
    (hb : basePlain o = true) (hns : es.all noStar = true) (hl : es.length < 30) (hline : (apos.endLine == cpos.line) = true) (hnil : es = [] → xs = .nil)
    (ha : PA X es (TAx X.K X.mg L W xs)) : PE X (.Call (.Attribute o (mName m) apos) es [] cpos) (TEx X.K X.mg L W (.mt m x xs)) := by
  have hu := c.units
  cases m with
  | indexT => exact absurd rfl hmT
  | indexS => exact s_mtA PySem.F.plainAttrs_str PySem.F.slot_str_index PySem.F.type_str_index mt_Index_str ho (rcv_str fun d h => by cases d <;> first | exact ⟨_, rfl⟩ | cases h) hb hns hl hline hnil ha
  | indexL => exact s_mtA PySem.F.plainAttrs_list PySem.F.slot_list_index PySem.F.type_list_index (mt_Index_list hu) ho (rcv_list fun d h => by cases d <;> first | exact ⟨_, rfl⟩ | cases h) hb hns hl hline hnil ha
  | countS => exact s_mtA PySem.F.plainAttrs_str PySem.F.slot_str_count PySem.F.type_str_count mt_Count_str ho (rcv_str fun d h => by cases d <;> first | exact ⟨_, rfl⟩ | cases h) hb hns hl hline hnil ha
  | countL => exact s_mtA PySem.F.plainAttrs_list PySem.F.slot_list_count PySem.F.type_list_count (mt_Count_list hu) ho (rcv_list fun d h => by cases d <;> first | exact ⟨_, rfl⟩ | cases h) hb hns hl hline hnil ha
  | join => exact s_mtA PySem.F.plainAttrs_str PySem.F.slot_str_join PySem.F.type_str_join mt_Join ho (rcv_str fun d h => by cases d <;> first | exact ⟨_, rfl⟩ | cases h) hb hns hl hline hnil ha
  | strip => exact s_mtA PySem.F.plainAttrs_str PySem.F.slot_str_strip PySem.F.type_str_strip mt_Strip ho (rcv_str fun d h => by cases d <;> first | exact ⟨_, rfl⟩ | cases h) hb hns hl hline hnil ha
  | lstrip => exact s_mtA PySem.F.plainAttrs_str PySem.F.slot_str_lstrip PySem.F.type_str_lstrip mt_Lstrip ho (rcv_str fun d h => by cases d <;> first | exact ⟨_, rfl⟩ | cases h) hb hns hl hline hnil ha
  | rstrip => exact s_mtA PySem.F.plainAttrs_str PySem.F.slot_str_rstrip PySem.F.type_str_rstrip mt_Rstrip ho (rcv_str fun d h => by cases d <;> first | exact ⟨_, rfl⟩ | cases h) hb hns hl hline hnil ha
  | upper => exact s_mtA PySem.F.plainAttrs_str PySem.F.slot_str_upper PySem.F.type_str_upper mt_Upper ho (rcv_str fun d h => by cases d <;> first | exact ⟨_, rfl⟩ | cases h) hb hns hl hline hnil ha
  | find => exact s_mtA PySem.F.plainAttrs_str PySem.F.slot_str_find PySem.F.type_str_find mt_Find ho (rcv_str fun d h => by cases d <;> first | exact ⟨_, rfl⟩ | cases h) hb hns hl hline hnil ha
  | split => exact s_mtA PySem.F.plainAttrs_str PySem.F.slot_str_split PySem.F.type_str_split mt_Split ho (rcv_str fun d h => by cases d <;> first | exact ⟨_, rfl⟩ | cases h) hb hns hl hline hnil ha
  | partition => exact s_mtA PySem.F.plainAttrs_str PySem.F.slot_str_partition PySem.F.type_str_partition mt_Partition ho (rcv_str fun d h => by cases d <;> first | exact ⟨_, rfl⟩ | cases h) hb hns hl hline hnil ha
end
end Bg

set_option Elab.async false
set_option linter.all false
set_option maxRecDepth 100000
set_option maxHeartbeats 4000000
/-! enumerate and zip over lists, tuples, texts, in any mix. -/
namespace Bg
open PySem PySem.Spec L2 PyProof.Rows

/-- what is drawn from -/
inductive Kd where
  | lst (a : Addr) | tup (a : Addr) | txt (z : Str) (t : Tok)
def Kd.isIt (kd : Kd) (it : Addr) (i : Nat) (h : Heap) : Prop := match kd with
  | .lst a => h.IsListIter it a i
  | .tup a => h.IsTupleIter it a i
  | .txt z t => h.IsStrIter it (strIterType z) z t i
def sgnV (z : Str) : List V := z.cps.toList.map fun c => V.str ⟨#[c]⟩
def Kd.has (K : PySem.W.Frag) (kd : Kd) (H : Hp) (xs : List V) : Prop := match kd with
  | .lst a => SqL K H a xs
  | .tup a => SqT K H a xs
  | .txt z _ => xs = sgnV z
def Kd.val : Kd → Value
  | .lst a => .ref a
  | .tup a => .ref a
  | .txt z t => .str z t
def Kd.obj : Kd → Obj
  | .lst a => { cls := .type "list_iterator", data := .fields #[.ref a, .int 0 0] }
  | .tup a => { cls := .type "tuple_iterator", data := .fields #[.ref a, .int 0 0] }
  | .txt z t => { cls := .type (strIterType z), data := .fields #[.str z t, .int 0 0] }
theorem Kd.isIt_obj {kd : Kd} {it : Addr} {i : Nat} {h : Heap} (st : kd.isIt it i h) : ∃ o, h.get? it = some o ∧ ∃ vs, o.data = .fields vs := by
  cases kd with
  | lst a => obtain ⟨o, h1, _, h3⟩ := st; exact ⟨o, h1, _, h3⟩
  | tup a => obtain ⟨o, h1, _, h3⟩ := st; exact ⟨o, h1, _, h3⟩
  | txt z t => obtain ⟨o, h1, _, h3⟩ := st; exact ⟨o, h1, _, h3⟩
theorem Kd.isIt_at {kd : Kd} {it : Addr} {i : Nat} {h h' : Heap} (st : kd.isIt it i h) (k : ∀ o, h.get? it = some o → h'.get? it = some o) : kd.isIt it i h' := by
  cases kd with
  | lst a => obtain ⟨o, h1, h2, h3⟩ := st; exact ⟨o, k o h1, h2, h3⟩
  | tup a => obtain ⟨o, h1, h2, h3⟩ := st; exact ⟨o, k o h1, h2, h3⟩
  | txt z t => obtain ⟨o, h1, h2, h3⟩ := st; exact ⟨o, k o h1, h2, h3⟩
theorem Kd.isIt_new {kd : Kd} {it : Addr} {h : Heap} (e : h.get? it = some kd.obj) : kd.isIt it 0 h := by
  cases kd with
  | lst a => exact ⟨_, e, rfl, rfl⟩
  | tup a => exact ⟨_, e, rfl, rfl⟩
  | txt z t => exact ⟨_, e, rfl, rfl⟩
/-- the draws, at a state -/
structure Drw (X : Cx) (pins : List (Addr × Obj)) (H : Hp) (A : Around) (kd : Kd) (xs : List V) (it : Addr) (i : Nat) (h : Heap) (fp : List Addr) (Pr : Nat → Value → Prop) (St : Nat → Heap → Prop) : Prop where
  d : Draws X.prog X.w A it fp xs.length Pr St
  st : St i h
  mem : it ∈ fp
  oth : ∀ b ∈ fp, b ≠ it → ¬ FpOk X pins H b
  back : ∀ j h', St j h' → kd.isIt it j h'
  val : ∀ j v, Pr j v → ∃ x, xs[j]? = some x ∧ RelV x v
section
variable {X : Cx} {pins : List (Addr × Obj)} {σ : L2.St} {H : Hp} {s : Shared}
theorem no_fp (I : Inv X pins σ H s) {b : Addr} (h : H b ≠ none ∨ ∃ o, X.K.lookup b = some o) : ¬ FpOk X pins H b := fun f => by
  obtain ⟨f0, _, _, f3, _⟩ := f
  rcases h with h | ⟨o, h⟩
  · exact h f0
  · have e : X.base.get? b = some o := I.ok.mod.kin b o h
    rcases f3 with f3 | f3
    · exact I.ok.noex b o e f3
    · exact absurd (Nat.lt_of_lt_of_le (Heap.lt_size e) I.ok.bsz) (Nat.not_lt.mpr f3)
theorem sqL_there {K : PySem.W.Frag} {a : Addr} {xs : List V} (h : SqL K H a xs) : H a ≠ none ∨ ∃ o, K.lookup a = some o := by
  rcases h with (h | ⟨o, h⟩) | ⟨o, _, _, h, _⟩
  · exact .inl (by rw [h]; exact fun z => by cases z)
  · exact .inl (by rw [h]; exact fun z => by cases z)
  · exact .inr ⟨o, h⟩
theorem sqT_there {K : PySem.W.Frag} {a : Addr} {xs : List V} (h : SqT K H a xs) : H a ≠ none ∨ ∃ o, K.lookup a = some o := by
  rcases h with (h | ⟨o, h⟩) | ⟨o, _, _, h, _⟩
  · exact .inl (by rw [h]; exact fun z => by cases z)
  · exact .inl (by rw [h]; exact fun z => by cases z)
  · exact .inr ⟨o, h⟩
theorem drw {A : Around} (I : Inv X pins σ H s) (hh : A.handled = none) {kd : Kd} {xs : List V} {it : Addr} {i : Nat} (hx : kd.has X.K H xs) (st : kd.isIt it i s.heap) : ∃ fp Pr St, Drw X pins H A kd xs it i s.heap fp Pr St := by
  cases kd with
  | lst a =>
    obtain ⟨its, rv, p, _⟩ := I.list hx
    have hl : its.toArray.size = xs.length := by rw [List.size_toArray]; exact rv.length.symm
    have ne : a ≠ it := by
      obtain ⟨o, h1, _, h3⟩ := st
      obtain ⟨o', n, h1', _, _, h4⟩ := p
      rintro rfl
      rw [h1] at h1'; cases h1'; rw [h3] at h4; cases h4
    refine ⟨_, _, _, ⟨hl ▸ Draws.list (prog := X.prog) (w := X.w) (A := A) hh it a ne its.toArray, ⟨st, p.isList⟩, by simp, fun b hb hne => ?_, fun j h' z => z.1, fun j v hv => ?_⟩⟩
    · have e : b = it ∨ b = a := by simpa using hb
      rcases e with e | e
      · exact absurd e hne
      · rw [e]; exact no_fp I (sqL_there hx)
    · have hv' : its[j]? = some v := by simpa using hv
      have hj : j < xs.length := by have := (List.getElem?_eq_some_iff.mp hv').1; rw [rv.length]; exact this
      obtain ⟨u, hu, ru⟩ := rv.get (List.getElem?_eq_getElem hj)
      rw [hv'] at hu
      cases Option.some.inj hu
      exact ⟨_, List.getElem?_eq_getElem hj, ru⟩
  | tup a =>
    obtain ⟨its, rv, p, _⟩ := I.tuple hx
    have hl : its.toArray.size = xs.length := by rw [List.size_toArray]; exact rv.length.symm
    have ne : a ≠ it := by
      obtain ⟨o, h1, _, h3⟩ := st
      obtain ⟨o', h1', _, n, h4⟩ := p
      rintro rfl
      rw [h1] at h1'; cases h1'; rw [h3] at h4; cases h4
    refine ⟨_, _, _, ⟨hl ▸ Draws.tuple (prog := X.prog) (w := X.w) (A := A) hh it a ne its.toArray, ⟨st, p⟩, by simp, fun b hb hne => ?_, fun j h' z => z.1, fun j v hv => ?_⟩⟩
    · have e : b = it ∨ b = a := by simpa using hb
      rcases e with e | e
      · exact absurd e hne
      · rw [e]; exact no_fp I (sqT_there hx)
    · have hv' : its[j]? = some v := by simpa using hv
      have hj : j < xs.length := by have := (List.getElem?_eq_some_iff.mp hv').1; rw [rv.length]; exact this
      obtain ⟨u, hu, ru⟩ := rv.get (List.getElem?_eq_getElem hj)
      rw [hv'] at hu
      cases Option.some.inj hu
      exact ⟨_, List.getElem?_eq_getElem hj, ru⟩
  | txt z t =>
    have hx : xs = sgnV z := hx
    subst hx
    have hl : z.cps.size = (sgnV z).length := by unfold sgnV; rw [List.length_map, Array.length_toList]
    refine ⟨_, _, _, ⟨hl ▸ Draws.text (prog := X.prog) (w := X.w) (A := A) hh it z t, st, by simp, fun b hb hne => ?_, fun j h' z => z, fun j v hv => ?_⟩⟩
    · exact absurd (by simpa using hb) hne
    · obtain ⟨c, u, h1, rfl⟩ := hv
      refine ⟨.str ⟨#[c]⟩, ?_, u, rfl⟩
      unfold sgnV
      rw [List.getElem?_map, Array.getElem?_toList, h1]
      rfl
theorem Kd.inj (I : Inv X pins σ H s) {kd : Kd} {xs ys : List V} (h : kd.has X.K H xs) (h' : kd.has X.K H ys) : xs = ys := by
  cases kd with
  | lst a => exact I.list_inj h h'
  | tup a => exact I.tuple_inj h h'
  | txt z t => exact (show xs = sgnV z from h).trans (show ys = sgnV z from h').symm
end

/-! ### enumerate -/
def IteD (K : PySem.W.Frag) (kd : Kd) : It :=
  ⟨fun i H => ∃ (xs : List V) (x : V), kd.has K H xs ∧ xs[i]? = some x, fun i H v H' => ∃ T x, v = .ref T ∧ H T = none ∧ H' = upd H T (.tup [.int (i : Nat), x]) ∧ ∀ xs, kd.has K H xs → xs[i]? = some x, fun i H => ∃ xs : List V, kd.has K H xs ∧ i = xs.length⟩
theorem turn_enumD {P : Program} {w : World} {K : PySem.W.Frag} {elts : List Expr} {kk : Nat} {tpos : Pos} (kd : Kd) (e it : Addr) :
    Turn P w K (.Tuple elts kk tpos) (IteD K kd) [e, it] e (fun i h => (∃ old, IsEnum h e it ((i : Nat) : Int) old) ∧ kd.isIt it i h ∧ e ≠ it) where
  mem := by simp
  obj := fun i h st b hb => by
    obtain ⟨⟨old, he⟩, hi, _⟩ := st
    obtain ⟨o, ho, vs, hd⟩ := Kd.isIt_obj hi
    have e' : b = e ∨ b = it := by simpa using hb
    rcases e' with z | z
    · rw [z]; exact ⟨_, he, fun v q => nomatch q⟩
    · rw [z]; exact ⟨o, ho, fun v q => by rw [hd] at q; cases q⟩
  keep := fun i h h' st k => let ⟨⟨old, he⟩, hi, hne⟩ := st; ⟨⟨old, k e (by simp) _ he⟩, Kd.isIt_at hi fun o q => k it (by simp) o q, hne⟩
  item := by
    intro X hP hw hK hc i pins s σ H E I hf st hg
    subst hP hw hK
    obtain ⟨⟨old, he⟩, hit, hne⟩ := st
    obtain ⟨xs, x, hq, hx⟩ := hg
    obtain ⟨fp, Pr, St, dr⟩ := drw (A := X.A.in1) I (I.ok.hd hc) hq hit
    have hel : e < s.heap.objs.size := Heap.lt_size he
    have hil : it < s.heap.objs.size := by obtain ⟨_, q, _⟩ := Kd.isIt_obj hit; exact Heap.lt_size q
    have hef : e ∉ fp := fun z => dr.oth e z hne (hf e (by simp))
    have hlt : i < xs.length := (List.getElem?_eq_some_iff.mp hx).1
    refine wpAny_pyNext_enum_itemC dr.d he dr.st hlt hne hef fun u h' tk hP ho hst' hT hsz hk => ?_
    obtain ⟨x', hx', ru⟩ := dr.val i u hP
    rw [hx] at hx'
    cases Option.some.inj hx'
    refine ⟨_, rfl, wpAny_letOwnedTupleGo_enum (s := { s with heap := h', toks := tk + 1 }) ho fun h'' he' sb => ?_⟩
    have hT2 : h''.get? s.heap.objs.size = some { cls := .type "tuple", data := .seq #[.int i tk, u] } := (sb.2 _ (Nat.ne_of_gt hel)).trans hT
    have new : ObjOk X.prog X.w (upd H s.heap.objs.size (.tup [.int (i : Nat), x])) h'' s.heap.objs.size (.tup [.int (i : Nat), x]) :=
      ⟨by show 2 ≤ sizeLine; decide, [.int i tk, u], .cons ⟨_, rfl⟩ (.cons ru .nil), ⟨_, hT2, rfl, _, rfl⟩⟩
    have I1 : Inv X pins σ (upd H s.heap.objs.size (.tup [.int (i : Nat), x])) { s with heap := h'', toks := tk + 1 } :=
      I.turnedNew (ch := [e, it]) (fun b ob hb q => (sb.2 b (fun z => hb (by simp [z]))).trans (hk b ob (fun z => hb (by simp [z])) (fun z => hb (by simp [z])) q)) hf (Nat.le_refl _) new
    refine ⟨.ref s.heap.objs.size, _, I1, rfl, ⟨_, x, rfl, I.hok.fresh (Nat.le_refl _), rfl, fun ys hy => by rw [Kd.inj I hy hq]; exact hx⟩, ⟨⟨u, ?_⟩, Kd.isIt_at (dr.back _ _ hst') fun o q => (sb.2 it (Ne.symm hne)).trans q, hne⟩, fun b hb => ?_⟩
    · have e1 : ((i + 1 : Nat) : Int) = (i : Int) + 1 := by omega
      rw [e1]; exact he'
    · have hb' : b < s.heap.objs.size := by
        have e' : b = e ∨ b = it := by simpa using hb
        rcases e' with z | z
        · rw [z]; exact hel
        · rw [z]; exact hil
      rw [upd_ne (Nat.ne_of_lt hb')]
      exact (hf b hb).1
  done := by
    intro X hP hw hK hc i pins s σ H E I hf st hg
    subst hP hw hK
    obtain ⟨⟨old, he⟩, hit, hne⟩ := st
    obtain ⟨xs, hq, rfl⟩ := hg
    obtain ⟨fp, Pr, St, dr⟩ := drw (A := X.A.in1) I (I.ok.hd hc) hq hit
    obtain ⟨f0, f1, f2, f3, f4, f5⟩ := hf it (by simp)
    exact wpAny_pyNext_enum_endD dr.d he dr.st fun h' eb => ⟨rfl, I.turned (t' := s.toks) (fun b o hb q => eb b o hb q) f0 f1 f3 f4 f5⟩
  self := fun A i s Q E st h => let ⟨⟨_, he⟩, _⟩ := st; wpAny_pyIter_enum he h

theorem meets_enum1 {v : Value} {o : Obj} {H : Heap → Prop} (B : Begins v o H) :
    Meets (Builtin.«enumerate.__new__» ⟨[.type "enumerate", v], []⟩) (fun _ R s => H s.heap ∧
      R (.ok (.ret (.ref (s.heap.push o).objs.size))) { s with heap := (s.heap.push o).push { cls := .type "enumerate", data := .fields #[.none, .bool false, .ref s.heap.objs.size, rawInt 0, .none, .none] } }) :=
  .of_wp fun prog w A R s h => by
    obtain ⟨hp, g, d, tk, os⟩ := s; obtain ⟨h1, h⟩ := h
    have hsub := sub_enumerate
    have q1 : ∀ {A' : Around} {E : Value → Shared → Prop} {Q : Value → Shared → Prop}, Q (.ref hp.objs.size) ⟨hp.push o, g, d, tk, os⟩ → wpAny (model prog w) A' (pyIter v) Q E ⟨hp, g, d, tk, os⟩ :=
      fun q => B.iter prog w _ _ ⟨hp, g, d, tk, os⟩ _ h1 q
    wp_walk using q1
    refine wpAny_stack_any fun st => wpAny_pure ?_
    split
    · rename_i c _ _ _ _ _
      cases (c == Value.type "enumerate")
      · wp_walk using q1
        exact ⟨_, rfl, h⟩
      · wp_walk using q1
        exact ⟨_, rfl, h⟩
    · wp_walk using q1
      exact ⟨_, rfl, h⟩
section
variable {prog : Program} {w : World} {A : Around} {E : Value → Shared → Prop} {s : Shared}
theorem enum_begins1 {v : Value} {o : Obj} {H : Heap → Prop} {Q : Value → Shared → Prop} (B : Begins v o H) (h1 : H s.heap)
    (h : ∀ h', IsEnum h' (s.heap.objs.size + 1) s.heap.objs.size 0 .none → h'.get? s.heap.objs.size = some o → h'.objs.size = s.heap.objs.size + 2 →
      (∀ b o, s.heap.get? b = some o → h'.get? b = some o) → Q (.ref (s.heap.objs.size + 1)) { s with heap := h' }) :
    wpAny (model prog w) A (call (.type "enumerate") [v]) Q E s := by
  refine callType_new F.called_enumerate (by decide) (F.typeCall_enumerate_1 _) (F.newCall_enumerate_1 _) (fun obj => F.args_object_init_2 obj _) F.entry_enumerate_new
    (meets_enum1 B) ⟨h1, ?_⟩
  have hz : (s.heap.push o).objs.size = s.heap.objs.size + 1 := Heap.size_push ..
  show _ ∧ _
  rw [hz]
  have he : IsEnum ((s.heap.push o).push { cls := .type "enumerate", data := .fields #[.none, .bool false, .ref s.heap.objs.size, rawInt 0, .none, .none] }) (s.heap.objs.size + 1) s.heap.objs.size 0 .none := by
    have := Heap.get?_push_size (s.heap.push o) (o := { cls := .type "enumerate", data := .fields #[.none, .bool false, .ref s.heap.objs.size, rawInt 0, .none, .none] }) rfl
    rw [hz] at this; exact this
  refine ⟨⟨_, he, rfl⟩, h _ he (Heap.get?_push_of_some _ (Heap.get?_push_size _ B.free)) (by rw [Heap.size_push, hz]) fun b o x => Heap.get?_push_of_some _ (Heap.get?_push_of_some _ x)⟩
end
/-- a value that is drawn from -/
inductive KdV : V → Kd → Prop
  | lst (a : Addr) : KdV (.ref a) (.lst a)
  | tup (a : Addr) : KdV (.ref a) (.tup a)
  | txt (z : Str) (t : Tok) : KdV (.str z) (.txt z t)
section
variable {X : Cx} {pins : List (Addr × Obj)} {σ : L2.St} {H : Hp} {s : Shared}
theorem kd_begins (I : Inv X pins σ H s) {kd : Kd} {xs : List V} (hx : kd.has X.K H xs) : ∃ Hh : Heap → Prop, Begins kd.val kd.obj Hh ∧ Hh s.heap := by
  cases kd with
  | lst a => obtain ⟨its, rv, p, _⟩ := I.list hx; exact ⟨_, begins_list a its.toArray, p.isList⟩
  | tup a => obtain ⟨its, rv, p, _⟩ := I.tuple hx; exact ⟨_, begins_tuple a its.toArray, p⟩
  | txt z t => exact ⟨_, begins_text z t, trivial⟩
end
/-- the kinds that a value may be drawn as -/
def kinds (K : PySem.W.Frag) (v : V) (H : Hp) (R : (Kd → Prop)) : Prop :=
  (∃ a xs, v = .ref a ∧ SqL K H a xs ∧ R (.lst a)) ∨ (∃ a xs, v = .ref a ∧ SqT K H a xs ∧ R (.tup a)) ∨ ∃ z, v = .str z ∧ ∀ t, R (.txt z t)
theorem kinds_at {K : PySem.W.Frag} {v : V} {u : Value} {H : Hp} {R : Kd → Prop} (h : kinds K v H R) (r : RelV v u) : ∃ kd, u = kd.val ∧ (∃ xs, kd.has K H xs) ∧ R kd := by
  rcases h with ⟨a, xs, rfl, hq, hr⟩ | ⟨a, xs, rfl, hq, hr⟩ | ⟨z, rfl, hr⟩
  · cases r; exact ⟨.lst a, rfl, ⟨xs, hq⟩, hr⟩
  · cases r; exact ⟨.tup a, rfl, ⟨xs, hq⟩, hr⟩
  · obtain ⟨t, rfl⟩ := r; exact ⟨.txt z t, rfl, ⟨_, rfl⟩, hr t⟩
def iEnumD (K : PySem.W.Frag) (ta : TA) : TI := fun σ H R => ta σ H fun vs H1 => ∃ v, vs = [v] ∧ kinds K v H1 fun kd => R (IteD K kd) H1
theorem pi_enumD {X : Cx} {e : Expr} {ta : TA} {p pos tpos : Pos} {elts : List Expr} {kk : Nat} (hg : Gl X "enumerate") (hm : X.mg "enumerate" = none) (ha : PA X [e] ta) (hs : starEach [e] X.env = [(false, eval e X.env)] := by rfl) :
    PI X (.Tuple elts kk tpos) (.Call (.Name "enumerate" p) [e] [] pos) (iEnumD X.K ta) := by
  refine ⟨fun pins s σ H R I h => ?_⟩
  refine Call_ (ld_blt I hg hm boot_enumerate (PyProof.Rows.callWith_type1 (thn (ha.run pos pins s σ H _ I h) fun us s1 ⟨vs, H1, I1, r1, q1⟩ => ?_) hs rfl))
  obtain ⟨v, rfl, q⟩ := q1
  obtain ⟨u, rfl, ru⟩ := L2.vals1 r1
  obtain ⟨kd, rfl, ⟨xs, hx⟩, q⟩ := kinds_at q ru
  obtain ⟨Hh, B, hb⟩ := kd_begins I1 hx
  refine enum_begins1 B hb fun h' he hit hsz hk => wpAny_pyIter_enum he ?_
  have I2 : Inv X pins σ H1 { s1 with heap := h' } := I1.kept (t' := s1.toks) hk
  refine ⟨s1.heap.objs.size + 1, [s1.heap.objs.size + 1, s1.heap.objs.size], _, _, H1, rfl, I2, turn_enumD kd (s1.heap.objs.size + 1) s1.heap.objs.size, ⟨⟨.none, he⟩, Kd.isIt_new hit, Nat.succ_ne_self _⟩, fun b hb => ?_, q⟩
  have e' : b = s1.heap.objs.size + 1 ∨ b = s1.heap.objs.size := by simpa using hb
  have hle : s1.heap.objs.size ≤ b := by
    rcases e' with z | z
    · rw [z]; exact Nat.le_add_right _ _
    · rw [z]; exact Nat.le_refl _
  exact I1.fpOk hle (I1.hok.fresh hle)

/-! ### zip -/
def ItzD (K : PySem.W.Frag) (ka kb : Kd) : It :=
  ⟨fun i H => ∃ (xs ys : List V) (x y : V), ka.has K H xs ∧ kb.has K H ys ∧ xs[i]? = some x ∧ ys[i]? = some y,
    fun i H v H' => ∃ T x y, v = .ref T ∧ H T = none ∧ H' = upd H T (.tup [x, y]) ∧ (∀ xs, ka.has K H xs → xs[i]? = some x) ∧ ∀ ys, kb.has K H ys → ys[i]? = some y,
    fun i H => ∃ xs ys : List V, ka.has K H xs ∧ kb.has K H ys ∧ i ≤ xs.length ∧ i ≤ ys.length ∧ (i = xs.length ∨ i = ys.length)⟩
structure Ap5 (z TI TO i1 i2 : Addr) : Prop where
  a1 : TI ≠ z
  a2 : TO ≠ z
  a3 : TI ≠ TO
  a4 : TI ≠ i1
  a5 : TI ≠ i2
  a6 : z ≠ i1
  a7 : z ≠ i2
  a8 : TO ≠ i1
  a9 : TO ≠ i2
  a10 : i1 ≠ i2
theorem turn_zipD {P : Program} {w : World} {K : PySem.W.Frag} {elts : List Expr} {kk : Nat} {tpos : Pos} {ka kb : Kd} {z TI TO i1 i2 : Addr} (D : Ap5 z TI TO i1 i2) :
    Turn P w K (.Tuple elts kk tpos) (ItzD K ka kb) [z, TI, TO, i1, i2] z (fun i h => IsZip h z TI TO .none ∧ IsTupOf2 h TI (.ref i1) (.ref i2) ∧ (∃ x y, IsTupOf2 h TO x y) ∧ ka.isIt i1 i h ∧ kb.isIt i2 i h) where
  mem := by simp
  obj := fun i h st c hc => by
    obtain ⟨hz, hTI, ⟨x, y, hTO⟩, s1, s2⟩ := st
    obtain ⟨o1, e1, v1, d1⟩ := Kd.isIt_obj s1
    obtain ⟨o2, e2, v2, d2⟩ := Kd.isIt_obj s2
    have e' : c = z ∨ c = TI ∨ c = TO ∨ c = i1 ∨ c = i2 := by simpa using hc
    rcases e' with q | q | q | q | q
    · rw [q]; exact ⟨_, hz, fun v q => nomatch q⟩
    · rw [q]; exact ⟨_, hTI, fun v q => nomatch q⟩
    · rw [q]; exact ⟨_, hTO, fun v q => nomatch q⟩
    · rw [q]; exact ⟨o1, e1, fun v q => by rw [d1] at q; cases q⟩
    · rw [q]; exact ⟨o2, e2, fun v q => by rw [d2] at q; cases q⟩
  keep := fun i h h' st k => by
    obtain ⟨hz, hTI, ⟨x, y, hTO⟩, h1, h2⟩ := st
    exact ⟨k z (by simp) _ hz, k TI (by simp) _ hTI, ⟨x, y, k TO (by simp) _ hTO⟩, Kd.isIt_at h1 fun o q => k i1 (by simp) o q, Kd.isIt_at h2 fun o q => k i2 (by simp) o q⟩
  item := by
    intro X hP hw hK hc i pins s σ H E I hf st hg
    subst hP hw hK
    obtain ⟨hz, hTI, ⟨x0, y0, hTO⟩, h1, h2⟩ := st
    obtain ⟨xs, ys, x, y, hqx, hqy, hx, hy⟩ := hg
    obtain ⟨fp1, Pr1, St1, d1⟩ := drw (A := X.A.in1) I (I.ok.hd hc) hqx h1
    obtain ⟨fp2, Pr2, St2, d2⟩ := drw (A := X.A.in1) I (I.ok.hd hc) hqy h2
    obtain ⟨o1, eo1, v1, do1⟩ := Kd.isIt_obj h1
    obtain ⟨o2, eo2, v2, do2⟩ := Kd.isIt_obj h2
    have n1 : ∀ b ∈ [z, TI, TO, i1, i2], b ≠ i1 → b ∉ fp1 := fun b hb ne hm => d1.oth b hm ne (hf b hb)
    have n2 : ∀ b ∈ [z, TI, TO, i1, i2], b ≠ i2 → b ∉ fp2 := fun b hb ne hm => d2.oth b hm ne (hf b hb)
    have S : ZipSep2 z TI TO i1 i2 fp1 fp2 := { TIz := D.a1, TOz := D.a2, TITO := D.a3, TIi1 := D.a4, mem1 := d1.mem, zf1 := n1 z (by simp) D.a6, Tf1 := n1 TO (by simp) D.a8, TIi2 := D.a5, mem2 := d2.mem, zf2 := n2 z (by simp) D.a7, Tf2 := n2 TO (by simp) D.a9, sep1_2 := n2 i1 (by simp) D.a10, sep2_1 := n1 i2 (by simp) (Ne.symm D.a10) }
    have hzl : z < s.heap.objs.size := Heap.lt_size hz
    have l1 : i < xs.length := (List.getElem?_eq_some_iff.mp hx).1
    have l2 : i < ys.length := (List.getElem?_eq_some_iff.mp hy).1
    refine wpAny_pyNext_zipD2_item S d1.d d2.d hz hTI hTO d1.st d2.st l1 l2 fun u u2 h' tk p1 p2 z' TO' h1' h2' hT hsz hk => ?_
    obtain ⟨x', hx', ru⟩ := d1.val i u p1
    rw [hx] at hx'
    cases Option.some.inj hx'
    obtain ⟨y', hy', ru2⟩ := d2.val i u2 p2
    rw [hy] at hy'
    cases Option.some.inj hy'
    refine ⟨_, rfl, wpAny_letOwnedTupleGo_zip (s := { s with heap := h', toks := tk }) z' fun h'' z'' sb => ?_⟩
    have hT2 : h''.get? s.heap.objs.size = some { cls := .type "tuple", data := .seq #[u, u2] } := (sb.2 _ (Nat.ne_of_gt hzl)).trans hT
    have new : ObjOk X.prog X.w (upd H s.heap.objs.size (.tup [x, y])) h'' s.heap.objs.size (.tup [x, y]) :=
      ⟨by show 2 ≤ sizeLine; decide, [u, u2], .cons ru (.cons ru2 .nil), ⟨_, hT2, rfl, _, rfl⟩⟩
    have I1 : Inv X pins σ (upd H s.heap.objs.size (.tup [x, y])) { s with heap := h'', toks := tk } :=
      I.turnedNew (t' := tk) (ch := [z, TI, TO, i1, i2]) (fun c o hb q => (sb.2 c (fun q' => hb (by simp [q']))).trans (hk c o (fun q' => hb (by simp [q'])) (fun q' => hb (by simp [q'])) (fun q' => hb (by simp [q'])) (fun q' => hb (by simp [q'])) q)) hf (Nat.le_refl _) new
    refine ⟨.ref s.heap.objs.size, _, I1, rfl, ⟨_, x, y, rfl, I.hok.fresh (Nat.le_refl _), rfl, fun l hl => by rw [Kd.inj I hl hqx]; exact hx, fun l hl => by rw [Kd.inj I hl hqy]; exact hy⟩, ⟨z'', ?_, ⟨u, u2, ?_⟩, ?_, ?_⟩, fun c hcm => ?_⟩
    · exact (sb.2 _ D.a1).trans (hk _ _ D.a1 D.a3 D.a4 D.a5 hTI)
    · exact (sb.2 _ D.a2).trans TO'
    · exact Kd.isIt_at (d1.back _ _ h1') fun o q => (sb.2 _ (Ne.symm D.a6)).trans q
    · exact Kd.isIt_at (d2.back _ _ h2') fun o q => (sb.2 _ (Ne.symm D.a7)).trans q
    · have hlt : c < s.heap.objs.size := by
        have e' : c = z ∨ c = TI ∨ c = TO ∨ c = i1 ∨ c = i2 := by simpa using hcm
        rcases e' with q | q | q | q | q
        · rw [q]; exact hzl
        · rw [q]; exact Heap.lt_size hTI
        · rw [q]; exact Heap.lt_size hTO
        · rw [q]; exact Heap.lt_size eo1
        · rw [q]; exact Heap.lt_size eo2
      rw [upd_ne (Nat.ne_of_lt hlt)]
      exact (hf c hcm).1
  done := by
    intro X hP hw hK hc i pins s σ H E I hf st hg
    subst hP hw hK
    obtain ⟨hz, hTI, ⟨x0, y0, hTO⟩, h1, h2⟩ := st
    obtain ⟨xs, ys, hqx, hqy, le1, le2, hend⟩ := hg
    obtain ⟨fp1, Pr1, St1, d1⟩ := drw (A := X.A.in1) I (I.ok.hd hc) hqx h1
    obtain ⟨fp2, Pr2, St2, d2⟩ := drw (A := X.A.in1) I (I.ok.hd hc) hqy h2
    obtain ⟨o1, eo1, v1, do1⟩ := Kd.isIt_obj h1
    obtain ⟨o2, eo2, v2, do2⟩ := Kd.isIt_obj h2
    have n1 : ∀ b ∈ [z, TI, TO, i1, i2], b ≠ i1 → b ∉ fp1 := fun b hb ne hm => d1.oth b hm ne (hf b hb)
    have n2 : ∀ b ∈ [z, TI, TO, i1, i2], b ≠ i2 → b ∉ fp2 := fun b hb ne hm => d2.oth b hm ne (hf b hb)
    have S : ZipSep2 z TI TO i1 i2 fp1 fp2 := { TIz := D.a1, TOz := D.a2, TITO := D.a3, TIi1 := D.a4, mem1 := d1.mem, zf1 := n1 z (by simp) D.a6, Tf1 := n1 TO (by simp) D.a8, TIi2 := D.a5, mem2 := d2.mem, zf2 := n2 z (by simp) D.a7, Tf2 := n2 TO (by simp) D.a9, sep1_2 := n2 i1 (by simp) D.a10, sep2_1 := n1 i2 (by simp) (Ne.symm D.a10) }
    exact wpAny_pyNext_zipD2_end S d1.d d2.d hz hTI hTO d1.st d2.st le1 le2 hend fun h' tk hk => ⟨rfl, I.turnedL (t' := tk) (ch := [z, TI, TO, i1, i2]) (fun c o hb q =>
      hk c o (fun q' => hb (by simp [q'])) (fun q' => hb (by simp [q'])) (fun q' => hb (by simp [q'])) (fun q' => hb (by simp [q'])) q) hf⟩
  self := fun A i s Q E st h => wpAny_pyIter_zip st.1 h
def iZipD (K : PySem.W.Frag) (ta : TA) : TI := fun σ H R => ta σ H fun vs H1 => ∃ v w, vs = [v, w] ∧ kinds K v H1 fun ka => kinds K w H1 fun kb => R (ItzD K ka kb) H1
theorem pi_zipD {X : Cx} {e e2 : Expr} {ta : TA} {p pos tpos : Pos} {elts : List Expr} {kk : Nat} (hg : Gl X "zip") (hm : X.mg "zip" = none) (ha : PA X [e, e2] ta)
    (hs : starEach [e, e2] X.env = (false, eval e X.env) :: starEach [e2] X.env := by rfl) (hpl : (backTo pos (starEach [e2] X.env)).any (·.1) = false := by rfl) :
    PI X (.Tuple elts kk tpos) (.Call (.Name "zip" p) [e, e2] [] pos) (iZipD X.K ta) := by
  refine ⟨fun pins s σ H R I h => ?_⟩
  refine Call_ (ld_blt I hg hm PyProof.Rows.boot_zip (PyProof.Rows.callWith_type1 (thn (ha.run pos pins s σ H _ I h) fun us s1 ⟨vs, H1, I1, r1, q1⟩ => ?_) hs hpl))
  obtain ⟨v, w, rfl, q⟩ := q1
  obtain ⟨u, u2, rfl, ru, ru2⟩ := L2.vals2 r1
  obtain ⟨ka, rfl, ⟨xs, hx⟩, q⟩ := kinds_at q ru
  obtain ⟨kb, rfl, ⟨ys, hy⟩, q⟩ := kinds_at q ru2
  obtain ⟨Ha, Ba, hba⟩ := kd_begins I1 hx
  obtain ⟨Hb, Bb, hbb⟩ := kd_begins I1 hy
  refine zip_begins2 Ba Bb hba hbb fun h' hz hTI hTO e1 e2 hsz hk => wpAny_pyIter_zip hz ?_
  have I2 : Inv X pins σ H1 { s1 with heap := h' } := I1.kept (t' := s1.toks) hk
  have ap : ∀ n : Nat, Ap5 (n + 4) (n + 2) (n + 3) n (n + 1) := fun n => ⟨show (n + 2 : Nat) ≠ n + 4 by omega, show (n + 3 : Nat) ≠ n + 4 by omega, show (n + 2 : Nat) ≠ n + 3 by omega, show (n + 2 : Nat) ≠ n by omega, show (n + 2 : Nat) ≠ n + 1 by omega, show (n + 4 : Nat) ≠ n by omega, show (n + 4 : Nat) ≠ n + 1 by omega, show (n + 3 : Nat) ≠ n by omega, show (n + 3 : Nat) ≠ n + 1 by omega, show (n : Nat) ≠ n + 1 by omega⟩
  refine ⟨s1.heap.objs.size + 4, [s1.heap.objs.size + 4, s1.heap.objs.size + 2, s1.heap.objs.size + 3, s1.heap.objs.size, s1.heap.objs.size + 1], _, _, H1, rfl, I2, turn_zipD (ka := ka) (kb := kb) (ap s1.heap.objs.size), ⟨hz, hTI, ⟨_, _, hTO⟩, Kd.isIt_new e1, Kd.isIt_new e2⟩, fun b hb => ?_, q⟩
  have e' : b = s1.heap.objs.size + 4 ∨ b = s1.heap.objs.size + 2 ∨ b = s1.heap.objs.size + 3 ∨ b = s1.heap.objs.size ∨ b = s1.heap.objs.size + 1 := by simpa using hb
  have hle : s1.heap.objs.size ≤ b := by
    rcases e' with z | z | z | z | z
    · rw [z]; exact Nat.le_add_right _ _
    · rw [z]; exact Nat.le_add_right _ _
    · rw [z]; exact Nat.le_add_right _ _
    · rw [z]; exact Nat.le_refl _
    · rw [z]; exact Nat.le_add_right _ _
  exact I1.fpOk hle (I1.hok.fresh hle)
end Bg

set_option Elab.async false
set_option linter.all false
set_option maxRecDepth 100000
set_option maxHeartbeats 4000000
/-! The sources enumerate and zip; slices with a step. -/
namespace Bg
open PySem PySem.Spec L2 PyProof.Rows

section
variable {K : PySem.W.Frag} {mg : Str → Option Value} {G H : Hp}
theorem Kd.mono {kd : Kd} {xs : List V} (s : Same G H) (h : kd.has K G xs) : kd.has K H xs := by
  cases kd with
  | lst a => exact sqL_mono s h
  | tup a => exact sqT_mono s h
  | txt z t => exact h
theorem enumD_get : ∀ (ds : List D) (k i : Nat), (enumD k ds)[i]? = (ds[i]?).map fun d => PyData.tuple [.int ((k + i : Nat) : Int), d]
  | [], k, i => by simp [enumD]
  | d :: ds, k, 0 => by simp [enumD]
  | d :: ds, k, i + 1 => by
    simp only [enumD, List.getElem?_cons_succ, enumD_get ds (k + 1) i]
    have : k + 1 + i = k + (i + 1) := by omega
    rw [this]
theorem enumD_len : ∀ (ds : List D) (k : Nat), (enumD k ds).length = ds.length
  | [], _ => rfl
  | d :: ds, k => by simp only [enumD, List.length_cons, enumD_len ds]
theorem zipD_get : ∀ (as bs : List D) (i : Nat), (zipD as bs)[i]? = (as[i]?).bind fun a => (bs[i]?).map fun b => PyData.tuple [a, b]
  | [], bs, i => by simp [zipD]
  | a :: as, [], i => by cases h : (a :: as)[i]? <;> simp [zipD]
  | a :: as, b :: bs, 0 => by simp [zipD]
  | a :: as, b :: bs, i + 1 => by simp only [zipD, List.getElem?_cons_succ, zipD_get as bs i]
theorem zipD_len : ∀ (as bs : List D), (zipD as bs).length = min as.length bs.length
  | [], bs => by simp [zipD]
  | a :: as, [] => by simp [zipD]
  | a :: as, b :: bs => by simp only [zipD, List.length_cons, zipD_len as bs]; omega
theorem src_enum {kd : Kd} {xs : List V} {ds : List D} (hs : kd.has K G xs) (ha : RpA K mg G xs ds) : Src K mg (IteD K kd) G (enumD 0 ds) where
  go := fun i H hi s => by
    rw [enumD_len] at hi
    have hx : i < xs.length := by rw [ha.length]; exact hi
    exact ⟨xs, xs[i], Kd.mono s hs, List.getElem?_eq_getElem hx⟩
  stop := fun H s => ⟨xs, Kd.mono s hs, by rw [enumD_len, ha.length]⟩
  yld := fun i H x H' G1 d hd s1 s2 y => by
    obtain ⟨T, z, rfl, hT, rfl, y2⟩ := y
    have hx := y2 xs (Kd.mono s2 (Kd.mono s1 hs))
    obtain ⟨d', hd', r⟩ := ha.get hx
    rw [enumD_get, hd'] at hd
    cases Option.some.inj hd
    have hG := none_of s2 hT
    refine ⟨_, Gr.new s2 (.tup [.int (i : Nat), z]) hT, .tup (SqT.of upd_same) (show 2 ≤ 1000000 by decide) (.cons ?_ (.cons (Rp.mono (s1.trans (same_new hG)) _ _ r) .nil))⟩
    rw [Nat.zero_add]
    exact .int _
theorem src_zip {ka kb : Kd} {xs ys : List V} {ds es : List D} (hs : ka.has K G xs) (ha : RpA K mg G xs ds) (ht : kb.has K G ys) (hb : RpA K mg G ys es) : Src K mg (ItzD K ka kb) G (zipD ds es) where
  go := fun i H hi s => by
    rw [zipD_len] at hi
    have hx : i < xs.length := by rw [ha.length]; omega
    have hy : i < ys.length := by rw [hb.length]; omega
    exact ⟨xs, ys, xs[i], ys[i], Kd.mono s hs, Kd.mono s ht, List.getElem?_eq_getElem hx, List.getElem?_eq_getElem hy⟩
  stop := fun H s => ⟨xs, ys, Kd.mono s hs, Kd.mono s ht, by rw [zipD_len, ha.length]; omega, by rw [zipD_len, hb.length]; omega, by rw [zipD_len, ha.length, hb.length]; omega⟩
  yld := fun i H x H' G1 d hd s1 s2 y => by
    obtain ⟨T, z, z2, rfl, hT, rfl, y2, y3⟩ := y
    have hx := y2 xs (Kd.mono s2 (Kd.mono s1 hs))
    have hy := y3 ys (Kd.mono s2 (Kd.mono s1 ht))
    obtain ⟨d', hd', r⟩ := ha.get hx
    obtain ⟨e', he', r'⟩ := hb.get hy
    rw [zipD_get, hd', he'] at hd
    cases Option.some.inj hd
    have hG := none_of s2 hT
    exact ⟨_, Gr.new s2 (.tup [z, z2]) hT, .tup (SqT.of upd_same) (show 2 ≤ 1000000 by decide) (.cons (Rp.mono (s1.trans (same_new hG)) _ _ r) (.cons (Rp.mono (s1.trans (same_new hG)) _ _ r') .nil))⟩
theorem sgn_rp (z : Str) : RpA K mg G (sgnV z) (sgn z) := by
  unfold sgnV sgn
  induction z.cps.toList with
  | nil => exact .nil
  | cons a r ih => exact .cons (.str _ (show 1 ≤ 1000000 by decide)) ih
/-- data that is drawn from -/
theorem kinds_of {v : V} {d : D} {ds : List D} {R : Kd → Prop} (s : Same G H) (r : Rp K mg G v d) (e : itemsOf d = some ds) (h : ∀ kd xs, kd.has K G xs → RpA K mg G xs ds → ds.length ≤ 1000000 → R kd) : kinds K v H R := by
  cases d with
  | list es =>
    cases Option.some.inj e
    cases r with
    | lst hs hz ha => exact .inl ⟨_, _, rfl, SqL.of (s _ _ hs), h (.lst _) _ (SqL.of hs) ha hz⟩
  | tuple es =>
    cases Option.some.inj e
    cases r with
    | tup hs hz ha => exact .inr (.inl ⟨_, _, rfl, sqT_mono s hs, h (.tup _) _ hs ha hz⟩)
  | str z =>
    cases Option.some.inj e
    cases r with
    | str _ hz => exact .inr (.inr ⟨z, rfl, fun t => h (.txt z t) (sgnV z) rfl (sgn_rp z) (by unfold sgn; rw [List.length_map, Array.length_toList]; exact hz)⟩)
  | _ => cases e
end
section
variable {L : Lg} {k : Nat} {N : List Str} {sc : Scope} {fl : Str → Bool} {W : WX} {X : Cx}
theorem s_enum (c : Ctx L k N sc fl W X) {a : Expr} {x : Ex} {p pos tpos : Pos} {elts : List Expr} {kk : Nat} (hg : glB sc "enumerate" = true) (hn : noStar a = true) (hst : x.st = true) (ha : PA X [a] (TAx X.K X.mg L W (.cons x .nil))) :
    PI X (.Tuple elts kk tpos) (.Call (.Name "enumerate" p) [a] [] pos) (TRx X.K X.mg L W (.enum x)) := by
  refine PI.imp (pi_enumD (c.gl hg) (c.blt _ (by decide)) ha (star1 hn)) fun σ H R h => ?_
  obtain ⟨H0, G0, ρ, G, o, h⟩ := h
  simp only [evR] at h
  refine ⟨H0, G0, ρ, G, o, ?_⟩
  simp only [evL]
  cases e : evE L.U L.cl ρ x with
  | no => rw [e] at h; exact h
  | ex c => rw [e] at h; exact h
  | ok d =>
    rw [e] at h
    simp only [Res.bind_ok] at h ⊢
    intro vs H1 G1 g1 r1 q1
    have q0 := q1 (by simp [Exs.allSt, hst])
    cases q0 with
    | cons p1 p2 =>
      cases p2
      refine ⟨_, rfl, ?_⟩
      cases e2 : itemsOf d with
      | none => rw [e2] at h; exact h.elim
      | some ds =>
        rw [e2] at h
        have h1 := h.grow g1
        exact kinds_of g1.s p1 e2 fun kd xs hk hr hz => h1 _ H1 G1 (Gr.refl g1.s) (src_enum hk hr) (by rw [enumD_len]; exact hz)
theorem s_zip (c : Ctx L k N sc fl W X) {a b : Expr} {x y : Ex} {p pos tpos : Pos} {elts : List Expr} {kk : Nat} (hg : glB sc "zip" = true) (hn : noStar a = true) (hn2 : noStar b = true) (hst : x.st = true) (hst2 : y.st = true) (ha : PA X [a, b] (TAx X.K X.mg L W (.cons x (.cons y .nil)))) :
    PI X (.Tuple elts kk tpos) (.Call (.Name "zip" p) [a, b] [] pos) (TRx X.K X.mg L W (.zip x y)) := by
  refine PI.imp (pi_zipD (c.gl hg) (c.blt _ (by decide)) ha (star1 hn) (stars (by simp [hn2]) pos)) fun σ H R h => ?_
  obtain ⟨H0, G0, ρ, G, o, h⟩ := h
  simp only [evR] at h
  refine ⟨H0, G0, ρ, G, o, ?_⟩
  simp only [evL]
  cases e : evE L.U L.cl ρ x with
  | no => rw [e] at h; exact h
  | ex c => rw [e] at h; exact h
  | ok d =>
    rw [e] at h
    simp only [Res.bind_ok] at h ⊢
    cases e' : evE L.U L.cl ρ y with
    | no => rw [e'] at h; exact h
    | ex c => rw [e'] at h; exact h
    | ok d' =>
      rw [e'] at h
      simp only [Res.bind_ok] at h ⊢
      intro vs H1 G1 g1 r1 q1
      have q0 := q1 (by simp [Exs.allSt, hst, hst2])
      cases q0 with
      | cons p1 p2 =>
        cases p2 with
        | cons p2 p3 =>
          cases p3
          refine ⟨_, _, rfl, ?_⟩
          cases e2 : itemsOf d with
          | none => rw [e2] at h; exact h.elim
          | some ds =>
            cases e3 : itemsOf d' with
            | none => rw [e2, e3] at h; exact h.elim
            | some es =>
              rw [e2, e3] at h
              have h1 := h.grow g1
              exact kinds_of g1.s p1 e2 fun ka xs hk hr hz => kinds_of g1.s p2 e3 fun kb ys hk2 hr2 hz2 => h1 _ H1 G1 (Gr.refl g1.s) (src_zip hk hr hk2 hr2) (by rw [zipD_len]; omega)
end
end Bg

set_option Elab.async false
set_option linter.all false
set_option maxRecDepth 100000
set_option maxHeartbeats 4000000
/-! t[::-1], t[lo:hi:2]. -/
namespace Bg
open PySem PySem.Spec L2 PyProof.Rows

theorem evens_get {α : Type} : ∀ (l : List α) (k : Nat), (evens l)[k]? = l[2 * k]?
  | [], k => by simp [evens]
  | [a], 0 => rfl
  | [a], k + 1 => by simp [evens]
  | a :: b :: r, 0 => rfl
  | a :: b :: r, k + 1 => by
    have : 2 * (k + 1) = 2 * k + 1 + 1 := by omega
    rw [this]
    simp only [evens, List.getElem?_cons_succ, evens_get r k]
theorem evens_len {α : Type} : ∀ (l : List α), (evens l).length = (l.length + 1) / 2
  | [] => by simp [evens]
  | [a] => by simp [evens]
  | a :: b :: r => by simp only [evens, List.length_cons, evens_len r]; omega
theorem RpA.evens {K : PySem.W.Frag} {mg : Str → Option Value} {G : Hp} : ∀ {vs : List V} {ds : List D}, RpA K mg G vs ds → RpA K mg G (Bg.evens vs) (Bg.evens ds)
  | _, _, .nil => .nil
  | _, _, .cons r .nil => .cons r .nil
  | _, _, .cons r (.cons _ t) => .cons r (RpA.evens t)
theorem fm_congr {α β : Type} {f g : α → Option β} : ∀ {l : List α}, (∀ a ∈ l, f a = g a) → l.filterMap f = l.filterMap g
  | [], _ => rfl
  | a :: l, h => by rw [List.filterMap_cons, List.filterMap_cons, h a (List.mem_cons_self ..), fm_congr fun b hb => h b (List.mem_cons_of_mem _ hb)]
theorem pick_eq {α : Type} {xs ys : List α} {n : Nat} {f : Nat → Nat} (hn : ys.length = n) (h : ∀ k, k < n → xs[f k]? = ys[k]?) : (List.range n).filterMap (fun k => xs[f k]?) = ys := by
  have e : (List.range n).filterMap (fun k => xs[f k]?) = (List.range n).filterMap (fun k => ys[k]?) := by
    apply fm_congr
    intro k hk
    exact h k (List.mem_range.mp hk)
  rw [e, ← hn]
  clear e h hn
  induction ys with
  | nil => rfl
  | cons y ys ih =>
    rw [List.length_cons, List.range_succ_eq_map, List.filterMap_cons]
    simp only [List.getElem?_cons_zero]
    rw [List.filterMap_map]
    congr 1
theorem pick_rev {α : Type} (xs : List α) : (List.range xs.length).filterMap (fun k => xs[xs.length - 1 - k]?) = xs.reverse :=
  pick_eq (by rw [List.length_reverse]) fun k hk => by rw [List.getElem?_reverse hk]
section
variable {prog : Program} {w : World} {A : Around} {E : Value → Shared → Prop} {s : Shared}
theorem sliceApplied_st {sl : Addr} {vl vu vs : Value} {lo hi : Option Int} {st : Int} {n : Nat} {Q : Int × Int × Nat → Shared → Prop} (hs : s.heap.IsSliceOf sl vl vu vs) (pl : IsPart vl lo) (pu : IsPart vu hi) (ps : IsPart vs (some st)) (h0 : st ≠ 0)
    (h : Q ((Builtin.Slice.sliceAdjust lo hi st (n : Int)).1, st, Builtin.Slice.slicePlaces (Builtin.Slice.sliceAdjust lo hi st (n : Int)).1 (Builtin.Slice.sliceAdjust lo hi st (n : Int)).2 st) s) : wpAny (model prog w) A (Builtin.Slice.sliceApplied (.ref sl) (pure (n : Int))) Q E s := by
  obtain ⟨os, hos, hcs, hds⟩ := id hs
  unfold Builtin.Slice.sliceApplied Builtin.Slice.sliceFields
  refine wpAny_bind (wpAny_bind (wpAny_field hos hds (x := vl) rfl (wpAny_bind (wpAny_field hos hds (x := vu) rfl (wpAny_bind (wpAny_field hos hds (x := vs) rfl (wpAny_pure ?_)))))))
  refine wpAny_bind (HT.slicePart_ ps ?_)
  show wpAny _ _ (if (st == 0) = true then _ else _) _ _ s
  rw [if_neg (by simpa using h0)]
  refine wpAny_bind (HT.slicePart_ pl (wpAny_bind (HT.slicePart_ pu (wpAny_bind (wpAny_pure ?_)))))
  exact wpAny_pure h
theorem getItem_tuple_st {t sl : Addr} {items : Array Value} {vl vu vs : Value} {lo hi : Option Int} {st : Int} {ys : List Value} {Q : Value → Shared → Prop} (ht : IsTup s.heap t items) (hs : s.heap.IsSliceOf sl vl vu vs) (pl : IsPart vl lo) (pu : IsPart vu hi) (ps : IsPart vs (some st)) (h0 : st ≠ 0) (h1 : st ≠ 1)
    (hy : ((List.range (Builtin.Slice.slicePlaces (Builtin.Slice.sliceAdjust lo hi st (items.size : Int)).1 (Builtin.Slice.sliceAdjust lo hi st (items.size : Int)).2 st)).filterMap fun (k : Nat) => items[((Builtin.Slice.sliceAdjust lo hi st (items.size : Int)).1 + (k : Int) * st).toNat]?) = ys) (hsz : ys.length ≤ sizeLine)
    (h : Q (.ref s.heap.objs.size) { s with heap := s.heap.push { cls := .type "tuple", data := .seq ys.toArray } }) : wpAny (model prog w) A (getItem (.ref t) (.ref sl)) Q E s := by
  have htake : sizeOk (.seq ys.toArray) := by
    show ys.toArray.size ≤ sizeLine
    rw [List.size_toArray]
    exact hsz
  obtain ⟨os, hos, hcs, hds⟩ := id hs
  have hTs : s.TypeIs (.ref sl) "slice" := ⟨os, hos, hcs⟩
  unfold getItem
  try with_reducible refine wpAny_holding ?_
  first | refine wpAny_bind (wpAny_pure ?_) | skip
  refine wpAny_bind (wpAny_sequenceKey ht.typeIs (by decide) ?_)
  refine wpAny_bind (wpAny_callSpecial?_slot (name := Str.ofString "__getitem__") ht.typeIs PyProof.Rows.slot_tuple_getitem
    (wpAny_call_entry PyProof.Rows.slot_tuple_getitem ht.typeIs entry_tuple_getitem ?_ (args_tuple_getitem _ _)))
  show wpAny _ _ (Builtin.Tuple.tupleItemsOf (.ref t) >>= _) _ _ s
  refine wpAny_bind (tupleItemsOf_ ht ?_)
  refine wpAny_bind (wpAny_typeOf hTs ?_)
  rw [if_pos (by decide)]
  refine wpAny_bind (sliceApplied_st hs pl pu ps h0 ?_)
  have hno : ¬ (((Builtin.Slice.sliceAdjust lo hi st (items.size : Int)).1 == 0 && st == 1 && Builtin.Slice.slicePlaces (Builtin.Slice.sliceAdjust lo hi st (items.size : Int)).1 (Builtin.Slice.sliceAdjust lo hi st (items.size : Int)).2 st == items.size) = true) := by
    intro q
    rw [Bool.and_eq_true, Bool.and_eq_true] at q
    exact h1 (eq_of_beq q.1.2)
  show wpAny _ _ (if ((Builtin.Slice.sliceAdjust lo hi st (items.size : Int)).1 == 0 && st == 1 && Builtin.Slice.slicePlaces (Builtin.Slice.sliceAdjust lo hi st (items.size : Int)).1 (Builtin.Slice.sliceAdjust lo hi st (items.size : Int)).2 st == items.size) = true then _ else _) _ _ s
  rw [if_neg hno, hy]
  first
    | exact wpAny_bind (m := Builtin.Tuple.tupleExact _) (wpAny_newObj_type (wpAny_pure ⟨_, rfl, wpAny_pure h⟩) htake)
    | exact wpAny_bind (m := Builtin.Tuple.tupleExact _) (wpAny_newObj_type (wpAny_bind (wpAny_pure (wpAny_pure ⟨_, rfl, wpAny_pure h⟩))) htake)
    | exact wpAny_bind (wpAny_bind (m := Builtin.Tuple.tupleExact _) (wpAny_newObj_type (wpAny_pure (wpAny_pure ⟨_, rfl, wpAny_pure h⟩)) htake))
    | exact wpAny_bind (wpAny_bind (m := Builtin.Tuple.tupleExact _) (wpAny_newObj_type (wpAny_pure ⟨_, rfl, wpAny_pure h⟩) htake))
end
theorem adj_rev (n : Nat) : Builtin.Slice.sliceAdjust none none (-1) (n : Int) = ((n : Int) - 1, -1) := by
  unfold Builtin.Slice.sliceAdjust
  simp
theorem pl_rev (n : Nat) : Builtin.Slice.slicePlaces ((n : Int) - 1) (-1) (-1) = n := by
  unfold Builtin.Slice.slicePlaces
  by_cases h : (n : Int) - 1 > -1
  · simp only [show ¬ ((-1 : Int) > 0) by decide, if_false, h, if_true]
    rw [show (- -1 : Int) = 1 by decide, Int.ediv_one]
    omega
  · simp only [show ¬ ((-1 : Int) > 0) by decide, if_false, h]
    omega
theorem adj_two (lo hi : Option Int) (n : Nat) : Builtin.Slice.sliceAdjust lo hi 2 (n : Int) = (((HT.sIx n 0 lo : Nat) : Int), ((HT.sIx n n hi : Nat) : Int)) := by
  have h1 : ¬ ((2 : Int) < 0) := by omega
  unfold Builtin.Slice.sliceAdjust
  simp only [h1, if_false]
  refine Prod.ext ?_ ?_
  · cases lo with
    | none => rfl
    | some v => exact HT.clip_eq v n 0
  · cases hi with
    | none => rfl
    | some v => exact HT.clip_eq v n n
theorem pl_two (i j : Nat) : Builtin.Slice.slicePlaces (i : Int) (j : Int) 2 = (j - i + 1) / 2 := by
  unfold Builtin.Slice.slicePlaces
  simp only [show (2 : Int) > 0 by decide, if_true]
  by_cases h : (i : Int) < (j : Int)
  · rw [if_pos h]
    omega
  · rw [if_neg h]
    omega
theorem ssi_rev (n : Nat) : Builtin.Str.strSliceIndices none none (-1) n = (List.range n).map fun k => n - 1 - k := by
  have h := PySem.W.krv_sliceRange n
  unfold sliceRange at h
  unfold Builtin.Str.strSliceIndices
  first
  | exact h
  | (simp at h ⊢; exact h)
theorem cutD_get {α : Type} (xs : List α) (lo hi : Option Int) (k : Nat) (h : k < HT.sIx xs.length xs.length hi - HT.sIx xs.length 0 lo) : (cutD xs lo hi)[k]? = xs[HT.sIx xs.length 0 lo + k]? := by
  unfold cutD
  rw [List.getElem?_take, if_pos h, List.getElem?_drop]
theorem cutD_length {α : Type} (xs : List α) (lo hi : Option Int) : (cutD xs lo hi).length = HT.sIx xs.length xs.length hi - HT.sIx xs.length 0 lo := by
  unfold cutD
  have h1 := HT.sIx_le xs.length xs.length (Nat.le_refl _) hi
  rw [List.length_take, List.length_drop]
  omega
theorem Vals.evens : ∀ {xs : List V} {us : List Value}, Vals xs us → Vals (Bg.evens xs) (Bg.evens us)
  | _, _, .nil => .nil
  | _, _, .cons r .nil => .cons r .nil
  | _, _, .cons r (.cons _ t) => .cons r (Vals.evens t)
section
variable {X : Cx}
theorem sls_D (pins : List (Addr × Obj)) (s : Shared) (σ : L2.St) (H : Hp) (x : V) (v vl vu vs : Value) (lo hi : Option Int) (st : Int) (sl : Addr) (Q : VK) (I : Inv X pins σ H s) (rx : RelV x v) (hs : s.heap.IsSliceOf sl vl vu vs) (pl : IsPart vl lo) (pu : IsPart vu hi) (ps : IsPart vs (some st))
    {G : Hp} {a d : D} (s0 : Same G H) (hx : Rs X.K X.mg G H x a) (e : slsD a lo hi st = some d) (f : Fin X.K X.mg H G Q d) :
    ∃ T id, typeLookup (.type T) "__getitem__" = pure (some (.builtin id)) ∧ s.TypeIs v T ∧ wpAny (model X.prog X.w) X.A (getItem v (.ref sl)) (EP X pins σ Q) X.xe s := by
  have revL : ∀ {p : Addr} {xs : List V} {ds : List D}, x = .ref p → SqL X.K H p xs → RpA X.K X.mg G xs ds → ds.length ≤ 1000000 → lo = none → hi = none → st = -1 → d = .list ds.reverse →
      ∃ T id, typeLookup (.type T) "__getitem__" = pure (some (.builtin id)) ∧ s.TypeIs v T ∧ wpAny (model X.prog X.w) X.A (getItem v (.ref sl)) (EP X pins σ Q) X.xe s := by
    intro p xs ds ex hp ha hz e1 e2 e3 e4
    subst ex e1 e2 e3 e4
    cases rx
    obtain ⟨its, r, ht, hzz⟩ := I.list hp
    have hlen := r.length
    refine ⟨"list", _, PySem.slot_list_getitem.lookup, ht.isList.typeIs, ?_⟩
    refine wpAny_getItem_list_slice ht.isList hs pl pu ps (by decide) ?_ (by rw [List.size_toArray]; omega)
    rw [PySem.W.krv_pick]
    refine ⟨.ref _, _, I.laid (t' := s.toks) (o := .lst xs.reverse) (fun b ob q => Heap.get?_push_of_some _ q) (Nat.le_refl _) ?_, rfl, f.newL s0 ha.reverse (by rw [List.length_reverse]; exact hz) (I.hok.fresh (Nat.le_refl _))⟩
    exact ⟨by rw [List.length_reverse]; exact hzz, _, 0, r.reverse, Heap.get?_push_size _ rfl⟩
  unfold slsD at e
  split at e
  · rename_i c
    obtain ⟨rfl, rfl, rfl⟩ := c
    split at e
    · cases Option.some.inj e
      obtain ⟨p, xs, ex, hp, ha⟩ := hx.lst s0
      exact revL ex (SqL.of hp) ha hx.lenL rfl rfl rfl rfl
    · cases Option.some.inj e
      obtain ⟨p, xs, rfl, hp, ha⟩ := hx.tup s0
      cases rx
      obtain ⟨its, r, ht, hzz⟩ := I.tuple hp
      have hlen := r.length
      refine ⟨"tuple", _, PyProof.Rows.slot_tuple_getitem.lookup, ht.typeIs, ?_⟩
      refine getItem_tuple_st (ys := its.reverse) ht hs pl pu ps (by decide) (by decide) ?_ (by rw [List.length_reverse]; omega) ?_
      · rw [List.size_toArray, adj_rev, pl_rev, ← pick_rev its]
        apply fm_congr
        intro k hk
        have hk := List.mem_range.mp hk
        have e1 : ((its.length : Int) - 1 + (k : Int) * -1).toNat = its.length - 1 - k := by omega
        show its.toArray[((its.length : Int) - 1 + (k : Int) * -1).toNat]? = _
        rw [e1]
        simp
      · refine ⟨.ref _, _, I.laid (t' := s.toks) (o := .tup xs.reverse) (fun b ob q => Heap.get?_push_of_some _ q) (Nat.le_refl _) ?_, rfl, f.newT s0 ha.reverse (by rw [List.length_reverse]; exact hx.lenT) (I.hok.fresh (Nat.le_refl _))⟩
        exact ⟨by rw [List.length_reverse]; exact hzz, _, r.reverse, IsTup.new _ _⟩
    · cases Option.some.inj e
      rename_i z
      have hz := hx.lenS
      have rx' := rx
      rw [hx.str] at rx'
      obtain ⟨t, rfl⟩ := rx'
      obtain ⟨os, hos, hcs, hds⟩ := hs
      obtain ⟨l, hl1, hl2⟩ := IsPart.raw pl
      obtain ⟨u, hu1, hu2⟩ := IsPart.raw pu
      obtain ⟨q, hq1, hq2⟩ := IsPart.raw ps
      subst hl1 hu1 hq1
      refine ⟨"str", _, F.slot_str_getitem.lookup, typeIs_str _ _ _, ?_⟩
      have h0 : ((q.map (·.1)).getD 1 == 0) = false := by rw [hq2]; rfl
      refine wpAny_getItem_str_slice (l := l) (u := u) (st := q) ⟨os, hos, hcs, hds⟩ h0 ?_
      have pick : (slicePicked z l u q).filterMap (z.cps[·]?) = z.cps.toList.reverse := by
        unfold slicePicked
        rw [hl2, hu2, hq2]
        show (Builtin.Str.strSliceIndices none none (-1) z.length).filterMap (z.cps[·]?) = _
        have e1 : Builtin.Str.strSliceIndices none none (-1) z.length = (List.range z.length).map fun k => z.length - 1 - k := ssi_rev z.length
        rw [e1, PySem.W.krv_range, List.filterMap_reverse]
        exact congrArg List.reverse (PySem.W.krv_all z.cps)
      unfold sliceMade
      rw [if_neg (by rw [hq2]; intro zz; simp at zz), pick]
      have hz' : (z.cps.toList.reverse.toArray).size ≤ 1000000 := by rw [List.size_toArray, List.length_reverse, Array.length_toList]; exact hz
      have q' := f.here s0 (.str _ hz')
      exact ⟨le_sl hz', .str _, H, I.tok _, ⟨_, rfl⟩, q'⟩
    · split at e
      · rename_i hz
        cases Option.some.inj e
        have hx' := hx.rp (fun _ z => by cases z)
        cases hx' with
        | scr hq => exact revL rfl (sqL_mono s0 hq) (RpA.ofInts _) hz rfl rfl rfl rfl
      · cases e
    · cases e
  · split at e
    · rename_i c1 c2
      subst c2
      split at e
      · cases Option.some.inj e
        obtain ⟨p, xs, rfl, hp, ha⟩ := hx.tup s0
        cases rx
        obtain ⟨its, r, ht, hzz⟩ := I.tuple hp
        have hlen := r.length
        refine ⟨"tuple", _, PyProof.Rows.slot_tuple_getitem.lookup, ht.typeIs, ?_⟩
        have hle := cutD_len its lo hi
        have hev := evens_len (cutD its lo hi)
        refine getItem_tuple_st (ys := Bg.evens (cutD its lo hi)) ht hs pl pu ps (by decide) (by decide) ?_ (by rw [hev]; omega) ?_
        · rw [List.size_toArray, adj_two]
          show (List.range (Builtin.Slice.slicePlaces ((HT.sIx its.length 0 lo : Nat) : Int) ((HT.sIx its.length its.length hi : Nat) : Int) 2)).filterMap _ = _
          rw [pl_two]
          have e2 : (fun (k : Nat) => its.toArray[((((HT.sIx its.length 0 lo : Nat) : Int), ((HT.sIx its.length its.length hi : Nat) : Int)).1 + (k : Int) * 2).toNat]?) = fun k => its[HT.sIx its.length 0 lo + 2 * k]? := by
            funext k
            have e3 : (((HT.sIx its.length 0 lo : Nat) : Int) + (k : Int) * 2).toNat = HT.sIx its.length 0 lo + 2 * k := by omega
            show its.toArray[(((HT.sIx its.length 0 lo : Nat) : Int) + (k : Int) * 2).toNat]? = _
            rw [e3]
            simp
          rw [e2]
          refine pick_eq (f := fun k => HT.sIx its.length 0 lo + 2 * k) (by rw [evens_len, cutD_length]) fun k hk => ?_
          rw [evens_get, cutD_get _ _ _ _ (by omega)]
        · have ec : cutD xs lo hi = cutV xs lo hi := rfl
          have rc : Vals (cutD xs lo hi) (cutD its lo hi) := by
            unfold cutD
            rw [hlen]
            exact (r.drop _).take _
          refine ⟨.ref _, _, I.laid (t' := s.toks) (o := .tup (Bg.evens (cutD xs lo hi))) (fun b ob q => Heap.get?_push_of_some _ q) (Nat.le_refl _) ?_, rfl, f.newT s0 (ha.cut lo hi).evens (by rw [evens_len]; have h1 := hx.lenT; exact Nat.le_trans (by omega) (Nat.le_trans (cutD_len _ lo hi) h1)) (I.hok.fresh (Nat.le_refl _))⟩
          exact ⟨by rw [evens_len]; have := cutD_len xs lo hi; omega, _, Vals.evens rc, IsTup.new _ _⟩
      · cases e
    · cases e
/-- a step as written -/
def stpB : Expr → Int → Bool
  | .UnaryOp .USub (.Constant (.int i) _ _) _, st => decide (i = 1) && decide (st = -1)
  | .Constant (.int i) _ _, st => decide (i = 2) && decide (st = 2)
  | _, _ => false
theorem po_stp {e : Expr} {st : Int} (h : stpB e st = true) : ∃ te : TO, PO X (some e) te ∧ ∀ σ H Q, Q (some st) H → te σ H Q := by
  unfold stpB at h
  split at h
  · rw [Bool.and_eq_true, decide_eq_true_eq, decide_eq_true_eq] at h
    obtain ⟨rfl, rfl⟩ := h
    exact ⟨_, po_some (pe_un un_neg pe_int), fun σ H Q q => ⟨1, rfl, -1, rfl, q⟩⟩
  · rw [Bool.and_eq_true, decide_eq_true_eq, decide_eq_true_eq] at h
    obtain ⟨rfl, rfl⟩ := h
    exact ⟨_, po_some pe_int, fun σ H Q q => ⟨2, rfl, q⟩⟩
  · cases h
variable {L : Lg} {W : WX}
theorem s_sls {a : Expr} {lo hi : Option Expr} {x : Ex} {l h : Ox} {se : Expr} {st : Int} {p2 pos : Pos} (ha : PE X a (TEx X.K X.mg L W x)) (hl : PO X lo (TOx X.K X.mg L W l)) (hh : PO X hi (TOx X.K X.mg L W h)) (hs : stpB se st = true) :
    PE X (.Subscript a (.Slice lo hi (some se) p2) pos) (TEx X.K X.mg L W (.sls x l h st)) := by
  obtain ⟨te, hst, hte⟩ := po_stp (X := X) hs
  refine ⟨fun pins s σ H Q I hq => ?_⟩
  have hq' : TEx X.K X.mg L W x σ H (fun v H1 => TOx X.K X.mg L W l σ H1 fun i H2 => TOx X.K X.mg L W h σ H2 fun j H3 => ∃ G a d, Same G H3 ∧ Rs X.K X.mg G H3 v a ∧ slsD a i j st = some d ∧ Fin X.K X.mg H3 G Q d) := by
    obtain ⟨H0, G0, ρ, G, o, h⟩ := hq
    simp only [evE] at h
    refine ev1 o h fun d v H1 G1 g1 o1 r1 h1 => evo o1 h1 fun i H2 G2 g2 o2 h2 => evo o2 h2 fun j H3 G3 g3 o3 h3 => ?_
    obtain ⟨z, ez, f⟩ := h3.ofO
    exact ⟨G3, d, z, o3.same, (r1.rs.gr g2).gr g3, ez, f⟩
  refine Subscript_ (thn (ha.run pins s σ H _ I hq') fun v s1 ⟨y, H1, I1, r1, q1⟩ => ?_)
  refine wpAny_Slice (thn (hl.run pins s1 σ H1 _ I1 q1) fun vl s2 ⟨i, H2, I2, pl, q2⟩ => ?_)
  refine thn (hh.run pins s2 σ H2 _ I2 q2) fun vu s3 ⟨j, H3, I3, pu, q3⟩ => ?_
  refine thn (hst.run pins s3 σ H3 (fun o H4 => o = some st ∧ H4 = H3) I3 (hte _ _ _ ⟨rfl, rfl⟩)) fun vs s4 ⟨o, H4, I4, ps, eo, e4⟩ => ?_
  subst eo e4
  obtain ⟨G, b, d, s0, rb, ed, f⟩ := q3
  have I5 : Inv X pins σ H4 { s4 with heap := s4.heap.push { cls := .type "slice", data := .fields #[vl, vu, vs] } } := I4.kept (t' := s4.toks) fun b ob q => Heap.get?_push_of_some _ q
  obtain ⟨T, id, hT, ty, run⟩ := sls_D pins _ σ H4 y v vl vu vs i j st s4.heap.objs.size Q I5 r1 (Heap.IsSliceOf.new _ vl vu vs) pl pu ps s0 rb ed f
  show wpAny (model X.prog X.w) X.A (subscriptTail a (.Slice lo hi (some se) p2) v (.ref s4.heap.objs.size)) (EP X pins σ Q) X.xe { s4 with heap := s4.heap.push { cls := .type "slice", data := .fields #[vl, vu, vs] } }
  exact tail_any (ops := [v, .ref s4.heap.objs.size]) ty hT run (by with_unfolding_all rfl)
end

/-! ### list(range(..)), i in range(n), a call of a def in a slot -/
section
variable {L : Lg} {k : Nat} {N : List Str} {sc : Scope} {fl : Str → Bool} {W : WX} {X : Cx}
theorem ints_upto : ∀ (n : Nat) (lo : Int), upto lo n = ((List.range n).map fun (i : Nat) => lo + (i : Int)).map PyData.int
  | 0, _ => rfl
  | n + 1, lo => by
    rw [List.range_succ_eq_map, List.map_cons, List.map_cons, List.map_map]
    show PyData.int lo :: upto (lo + 1) n = _
    rw [ints_upto n (lo + 1)]
    congr 1
    · simp
    · rw [List.map_map, List.map_map]
      refine List.map_congr_left fun i _ => ?_
      simp only [Function.comp_def]
      congr 1
      omega
theorem ints_uptoC : ∀ (n : Nat) (lo c : Int), uptoC lo c n = ((List.range n).map fun (i : Nat) => lo + (i : Int) * c).map PyData.int
  | 0, _, _ => rfl
  | n + 1, lo, c => by
    rw [List.range_succ_eq_map, List.map_cons, List.map_cons, List.map_map]
    show PyData.int lo :: uptoC (lo + c) c n = _
    rw [ints_uptoC n (lo + c) c]
    congr 1
    · simp
    · rw [List.map_map, List.map_map]
      refine List.map_congr_left fun i _ => ?_
      simp only [Function.comp_def, Nat.succ_eq_add_one, Int.natCast_add, Int.natCast_one, Int.add_mul, Int.one_mul]
      congr 1
      omega
theorem s_lrng1 (c : Ctx L k N sc fl W X) {a : Expr} {x : Ex} {p q pos pos2 : Pos} (hl : glB sc "list" = true) (hg : glB sc "range" = true) (hn : noStar a = true) (ha : PE X a (TEx X.K X.mg L W x)) : PE X (.Call (.Name "list" p) [.Call (.Name "range" q) [a] [] pos2] [] pos) (TEx X.K X.mg L W (.lrng (.cons x .nil))) := by
  refine PE.imp (pe_listRg c.calm (c.gl hl) (c.blt _ (by decide)) (prg_1 (c.gl hg) (c.blt _ (by decide)) ha (star1 hn)) (star1 rfl)) fun σ H Q h => ?_
  obtain ⟨H0, G0, ρ, G, o, h⟩ := h
  simp only [evE, evL] at h
  have h' : Wn X.K X.mg L W σ H G true ((evE L.U L.cl ρ x).bind fun d => (Res.ofO (rngD [d])).bind fun r => .ok (.list r)) Q := by
    cases e : evE L.U L.cl ρ x with
    | ok d => rw [e] at h; exact h
    | ex c => rw [e] at h; exact h
    | no => rw [e] at h; exact h
  refine ev1 o h' fun d v H1 G1 g1 o1 r1 h1 => ?_
  cases e : rngD [d] with
  | none => rw [e] at h1; exact h1.elim
  | some r =>
    rw [e] at h1
    unfold rngD at e
    split at e
    · rename_i j z
      cases z
      split at e
      · rename_i hj
        cases Option.some.inj e
        refine ⟨j, r1.rs.int, ⟨by decide, by decide, by omega, by omega, by omega⟩, fun q hq => ?_⟩
        have f := Wn.fin h1
        refine f.newL o1.same ?_ (by rw [upto_len]; omega) hq
        unfold rgV
        rw [ints_upto, show (j - 0).toNat = j.toNat by omega]
        have e2 : ((List.range j.toNat).map fun (i : Nat) => V.int (0 + (i : Int))) = ((List.range j.toNat).map fun (i : Nat) => (0 : Int) + (i : Int)).map V.int := by rw [List.map_map]; rfl
        rw [e2]
        exact RpA.ofInts _
      · cases e
    · rename_i z; cases z
    · rename_i z; cases z
    · cases e
theorem s_lrng3 (c : Ctx L k N sc fl W X) {a b d : Expr} {xs : Exs} {p q pos pos2 : Pos} (hl : glB sc "list" = true) (hg : glB sc "range" = true) (hn : noStar a = true) (hn2 : noStar b = true) (hn3 : noStar d = true) (hx : xs.len = 3) (ha : PA X [a, b, d] (TAx X.K X.mg L W xs)) :
    PE X (.Call (.Name "list" p) [.Call (.Name "range" q) [a, b, d] [] pos2] [] pos) (TEx X.K X.mg L W (.lrng xs)) := by
  refine ⟨fun pins s σ H Q I h => ?_⟩
  obtain ⟨H0, G0, ρ, G, o, h⟩ := h
  simp only [evE] at h
  have hA : TAx X.K X.mg L W xs σ H (fun vs H1 => ∃ (i j c : Int) (n : Nat), vs = [.int i, .int j, .int c] ∧ RgC i j c n ∧ n ≤ 1000000 ∧ ∀ p, H1 p = none → Q (.ref p) (upd H1 p (.lst ((List.range n).map fun (m : Nat) => V.int (i + (m : Int) * c))))) := by
    refine ⟨H0, G0, ρ, G, o, ?_⟩
    cases e : evL L.U L.cl ρ xs with
    | no => rw [e] at h; exact h
    | ex c => rw [e] at h; exact h
    | ok ds =>
      rw [e] at h
      intro vs H1 G1 g1 r1 _
      have hd := evL_len e
      cases e2 : rngD ds with
      | none => rw [Res.bind_ok, e2] at h; exact h.elim
      | some r =>
        rw [Res.bind_ok, e2] at h
        have f := Wn.fin (h.grow g1)
        unfold rngD at e2
        split at e2
        · simp only [List.length_cons, List.length_nil] at hd; omega
        · simp only [List.length_cons, List.length_nil] at hd; omega
        · split at e2
          · rename_i hj
            cases Option.some.inj e2
            obtain ⟨u, v, w, rfl, hu, hv, hw⟩ := r1.three
            obtain ⟨j1, j2, j3, j4, j5, j6, j7, j8⟩ := hj
            refine ⟨_, _, _, _, by rw [hu.int, hv.int, hw.int], ⟨j5, by omega, small_ok j1 j2 j3 j4 j5 j6 j7 j8, turns_eq _ _ _ j5⟩, j8, fun p hp => ?_⟩
            refine f.newL g1.s ?_ (by rw [uptoC_len]; exact j8) hp
            rw [ints_uptoC]
            have e9 : ∀ (i l : Int) (n : Nat), ((List.range n).map fun (m : Nat) => V.int (i + (m : Int) * l)) = ((List.range n).map fun (m : Nat) => i + (m : Int) * l).map V.int := fun i l n => by rw [List.map_map]; rfl
            rw [e9]
            exact RpA.ofInts _
          · cases e2
        · cases e2
  refine Call_ (ld_blt I (c.gl hl) (c.blt _ (by decide)) boot_list (PyProof.Rows.callWith_type1 (args_cons ?_ (star1 rfl)) (star1 rfl)))
  refine Call_ (ld_blt I (c.gl hg) (c.blt _ (by decide)) boot_range (PyProof.Rows.callWith_type1 (thn (ha.run pos2 pins s σ H _ I hA) fun us s1 ⟨vs, H1, I1, r1, q1⟩ => ?_) (star1 hn) (stars (by simp [hn2, hn3]) pos2)))
  obtain ⟨i, j, l, n, e, ⟨c0, c1, c2, c3⟩, c4, q⟩ := q1
  subst e
  cases r1 with
  | cons r rr =>
    cases rr with
    | cons r' rr =>
      cases rr with
      | cons r'' rr =>
        cases rr
        obtain ⟨t, rfl⟩ := r
        obtain ⟨t', rfl⟩ := r'
        obtain ⟨t'', rfl⟩ := r''
        refine call_range_3 c0 ?_ (.inl (PyProof.noPylong_small c1))
        refine args_nil ?_
        have I2 : Inv X pins σ H1 { s1 with heap := s1.heap.push { cls := .type "range", data := .fields #[.int i t, .int j t', .int l t''] } } := I1.kept (t' := s1.toks) fun b o e => Heap.get?_push_of_some _ e
        refine call_list_range (n := n) (I2.ok.hd c.calm) (IsRange.new ..) c2 c3 (by omega) fun h' tk acc c' hk e' hi => ?_
        have hlen : acc.toList.length = n := by rw [Array.length_toList]; exact hi.1
        have hv : Vals ((List.range n).map fun (m : Nat) => V.int (i + (m : Int) * l)) acc.toList := by
          rw [← hlen]
          refine vals_of_get acc.toList _ fun j u hj => ?_
          obtain ⟨t, rfl⟩ := hi.2 j u (by rw [← hj, Array.getElem?_toList])
          exact ⟨t, rfl⟩
        refine ⟨.ref _, upd H1 _ (.lst ((List.range n).map fun (m : Nat) => V.int (i + (m : Int) * l))), I2.laid hk (Nat.le_refl _) (show ObjOk X.prog X.w _ _ _ (.lst _) from ⟨?_, acc.toList, c', hv, ?_⟩), rfl, q _ (I2.hok.fresh (Nat.le_refl _))⟩
        · rw [List.length_map, List.length_range, sizeLine_eq]; omega
        · rw [Array.toArray_toList]; exact e'
/-- range(n) as a value -/
theorem cr_rng1 : CallR X (.type "range") (fun vs H Q => ∃ j, vs = [V.int j] ∧ ∀ p, H p = none → Q (.ref p) (upd H p (.rng 0 j))) := by
  intro pins s σ H vs us Q I r h
  obtain ⟨j, rfl, q⟩ := h
  cases r with
  | cons rj rr =>
    cases rr
    obtain ⟨u, rfl⟩ := rj
    refine call_range_1 ⟨.ref s.heap.objs.size, upd H s.heap.objs.size (.rng 0 j), I.laid (fun b o e => Heap.get?_push_of_some _ e) (Nat.le_refl _) ?_, rfl, q _ (I.hok.fresh (Nat.le_refl _))⟩
    exact ⟨_, _, _, Heap.get?_push_size _ rfl⟩
theorem s_inr (c : Ctx L k N sc fl W X) {a b : Expr} {x y : Ex} {q pos pos2 : Pos} (hg : glB sc "range" = true) (hn : noStar b = true) (ha : PE X a (TEx X.K X.mg L W x)) (hb : PE X b (TEx X.K X.mg L W y)) :
    PE X (.Compare a [.In] [.Call (.Name "range" q) [b] [] pos2] pos) (TEx X.K X.mg L W (.inr x y)) ∧ PT X (.Compare a [.In] [.Call (.Name "range" q) [b] [] pos2] pos) (TTx X.K X.mg L W (.inr x y)) := by
  have hB : PE X (.Call (.Name "range" q) [b] [] pos2) (tCB _ (tCons (TEx X.K X.mg L W y) tNil)) := pe_callTy cr_rng1 (c.gl hg) (c.blt _ (by decide)) boot_range (pa_cons hb pa_nil (star1 hn)) (by decide) (by decide) (star1 hn) (by rfl)
  have core : ∀ σ H Q, TEx X.K X.mg L W (.inr x y) σ H Q → tOp (fun x y H Q => ∃ i a lo hi, x = V.int i ∧ y = V.ref a ∧ H a = some (.rng lo hi) ∧ Q (.bl (decide (lo ≤ i ∧ i < hi))) H) (TEx X.K X.mg L W x) (tCB (fun vs H Q => ∃ j, vs = [V.int j] ∧ ∀ p, H p = none → Q (.ref p) (upd H p (.rng 0 j))) (tCons (TEx X.K X.mg L W y) tNil)) σ H Q := fun σ H Q h => by
    obtain ⟨H0, G0, ρ, G, o, h⟩ := h
    simp only [evE] at h
    refine ev1 o h fun d v H1 G1 g1 o1 r1 h1 => ev1 o1 h1 fun e w H2 G2 g2 o2 r2 h2 => ?_
    cases d with
    | int i =>
      cases e with
      | int j =>
        refine ⟨j, by rw [r2.rs.int], fun p hp => ⟨i, p, 0, j, r1.rs.int, rfl, upd_same, ?_⟩⟩
        exact Wn.fin h2 _ _ _ (Gr.own o2.same _ hp) (.bl _)
      | _ => exact h2.elim
    | _ => exact h2.elim
  refine ⟨PE.imp (pe_cmpR op_in_rng ha hB rfl) core, PT.imp (pt_cmpR op_in_rng ha hB rfl) fun σ H Q h => ?_⟩
  obtain ⟨H0, G0, ρ, G, o, h⟩ := h
  refine core σ H _ ⟨H0, G0, ρ, G, o, h.tst fun d e => ?_⟩
  simp only [evE] at e
  obtain ⟨_, _, e⟩ := bind_ok_inv e
  obtain ⟨_, _, e⟩ := bind_ok_inv e
  obtain ⟨_, _, e⟩ := bind_ok_inv e
  obtain ⟨_, _, e⟩ := bind_ok_inv e
  cases e
  exact ⟨_, rfl⟩
/-- a call of a def that a slot holds -/
theorem s_callv (c : Ctx L k N sc fl W X) {i : Nat} {js : List Nat} {x : Str} {p pos : Pos} {e : Expr} {es : List Expr} {xs : Exs} (hi : N[i]? = some x) (hv : visB sc x = true) (hd : dbg x = false) (hj : ∀ j ∈ js, ∃ fd, L.P.fn j = some fd ∧ xs.len = fd.par) (hst : xs.allSt = true) (hns : (e :: es).all noStar = true)
    (ha : PA X (e :: es) (TAx X.K X.mg L W xs)) : PE X (.Call (.Name x p) (e :: es) [] pos) (TEx X.K X.mg L W (.callv i js xs)) := by
  obtain ⟨d1, d2, _⟩ := dbg_ok hd
  rw [List.all_cons, Bool.and_eq_true] at hns
  refine ⟨fun pins s σ H Q I h => ?_⟩
  obtain ⟨H0, G0, ρ, G, o, h⟩ := h
  simp only [evE] at h
  split at h
  · rename_i y hy
    obtain ⟨v, h1, h2⟩ := o.val i _ hy
    cases hf : js.find? (fun j => decide ((L.U.fn j).map (·.name) = some y)) with
    | none => rw [hf] at h; exact h.elim
    | some j =>
      rw [hf] at h
      obtain ⟨fd, g1, g2⟩ := hj j (List.mem_of_find?_eq_some hf)
      have g3 := List.find?_some hf
      simp only [c.subF _ _ g1, Option.map_some, decide_eq_true_eq, Option.some.injEq] at g3
      obtain ⟨a, data, e1, kp, bd, F⟩ := c.fns j fd g1
      cases h2 with
      | fn hm =>
        rw [← g3, e1] at hm
        cases hm
        have ha' : TAx X.K X.mg L W xs σ H (fun vs H1 => ∃ G1 ds, Same G1 H1 ∧ ds.length = fd.par ∧ RpA X.K X.mg G1 vs ds ∧ Wn X.K X.mg L W σ H1 G1 true (L.cl j ds) Q) := by
          refine ⟨H0, G0, ρ, G, o, ?_⟩
          cases q : evL L.U L.cl ρ xs with
          | no => rw [q] at h; exact h
          | ex c => rw [q] at h; exact h
          | ok ds =>
            rw [q] at h
            intro vs H1 G1 g1 r1 q1
            exact ⟨G1, ds, g1.s, by rw [evL_len q]; exact g2, q1 hst, h.grow g1⟩
        refine wpAny_Call_Name_kw (thn ((pe_var (pos := p) (by rw [c.hN]; exact hi) (c.vis hv) d1 d2).run pins s σ H (fun v H1 => v = .ref a ∧ H1 = H) I ⟨.ref a, h1, rfl, rfl⟩) fun u s1 ⟨v, H1, I1, r1, q1⟩ => ?_)
        obtain ⟨rfl, rfl⟩ := q1
        cases r1
        refine PySem.W.callWith_K (h₀ := X.base) I.ok.mod.kin kp (thn (ha.run pos pins s1 σ _ _ I1 ha') fun us s2 ⟨vs, H2, I2, r, G1, ds, s0, hl', rp, q⟩ => ⟨I2.kIn, ?_⟩) (star1 hns.1) (stars hns.2 pos)
        exact run_D c g1 e1 I2 r s0 rp hl' q
  · exact h.elim
end
end Bg

set_option Elab.async false
set_option linter.all false
set_option maxRecDepth 100000
set_option maxHeartbeats 4000000
/-! The check of an expression's text against its syntax here, and its soundness. -/
namespace Bg
open PySem PySem.Spec L2

section
variable {L : Lg} {k : Nat} {N : List Str} {sc : Scope} {fl : Str → Bool} {W : WX} {X : Cx}
/-- index of a written tuple -/
theorem s_idxT (c : Ctx L k N sc fl W X) {i : Nat} {cc : Str × D} {x : Str} {p apos cpos : Pos} {e : Expr} {xs : Exs} (h1 : L.P.con i = some cc) (hx : cc.1 = x) (h2 : glB sc x = true) (h3 : dbg x = false)
    (hns : noStar e = true) (hline : (apos.endLine == cpos.line) = true) (ha : PA X [e] (TAx X.K X.mg L W xs)) : PE X (.Call (.Attribute (.Name x p) "index" apos) [e] [] cpos) (TEx X.K X.mg L W (.mt .indexT (.con i) xs)) := by
  obtain ⟨d1, d2, _⟩ := dbg_ok h3
  obtain ⟨v, u, e1, e2, e3⟩ := c.con i cc h1
  have e1' := e1
  rw [hx] at e1
  refine PE.imp (pe_bm PySem.F.plainAttrs_tuple PySem.F.slot_tuple_index PySem.F.type_tuple_index (mt_Index_tuple c.units) (pe_glob (c.gl h2) e1 e2 d1) ha rfl (few_ok (by simp [hns]) (by show 1 < 30; omega)) hline (star1 hns) rfl) fun σ H Q h => ?_
  obtain ⟨H0, G0, ρ, G, o, h⟩ := h
  simp only [evE, c.subC _ _ h1, Res.bind_ok] at h
  cases q : rcv .indexT cc.2 with
  | false => rw [q] at h; exact h.elim
  | true =>
    rw [q] at h
    have e3' : Rp X.K X.mg G v cc.2 := Rp.mono (fun _ _ z => by cases z) _ _ e3
    have hd : ∃ ds, cc.2 = .tuple ds := by
      cases z : cc.2 <;> rw [z] at q <;> first | exact ⟨_, rfl⟩ | cases q
    obtain ⟨ds, hds⟩ := hd
    refine ⟨?_, ?_⟩
    · have e4 := e3
      rw [hds] at e4
      cases e4 with
      | tup hs hz hr =>
        cases e2
        exact .inr (.inl ⟨rfl, c.tpc i cc _ h1 ⟨ds, hds⟩ e1'⟩)
    · refine evs o h fun ds vs H2 G2 g2 o2 r2 _ h2 => ?_
      obtain ⟨z, ez, f⟩ := h2.ofO
      exact ⟨G2, cc.2, ds, z, o2.same, Rs.gr g2 (.inl e3'), r2, ez, f⟩
def cOp : Cop → CmpOp
  | .eq => .Eq | .ne => .NotEq | .lt => .Lt | .le => .LtE | .gt => .Gt | .ge => .GtE | .is => .Is | .isnot => .IsNot | .isin => .In | .notin => .NotIn
def bOp : Bop → Operator
  | .add => .Add | .sub => .Sub | .mul => .Mult | .mod => .Mod | .fdiv => .FloorDiv | .pow => .Pow
theorem bOp_ok (bo : Bop) : OpR X (binaryOp (bOp bo)) (rB X.K X.mg (bop bo)) := by
  cases bo
  · exact op_bAdd
  · exact op_bSub
  · exact op_bMul
  · exact op_bMod
  · exact op_bFdiv
  · exact op_bPow
theorem cOp_ok (hu : X.A.units + 100 < cLine) (bo : Cop) : OpR X (compareOp (cOp bo)) (rB X.K X.mg (cop bo)) := by
  cases bo
  · exact op_cEq hu
  · exact op_cNe hu
  · exact op_cLt hu
  · exact op_cLe
  · exact op_cGt hu
  · exact op_cGe hu
  · exact op_cIs
  · exact op_cIsNot
  · exact op_cIn hu
  · exact op_cNotIn hu
def bnName : Bn → Str
  | .len => "len" | .sum => "sum" | .all => "all" | .tuple => "tuple" | .list => "list" | .int => "int" | .str => "str" | .abs => "abs" | .max => "max" | .min => "min" | .sorted => "sorted" | .isi => "isinstance"
theorem bn_mem (b : Bn) : bnName b ∈ bltNames := by cases b <;> decide +kernel
theorem bn_dbg (b : Bn) : dbg (bnName b) = false := by cases b <;> decide +kernel
theorem bn_ok (c : Ctx L k N sc fl W X) (b : Bn) : (∃ id, CallR X (.builtin id) (rC X.K X.mg (bfn b)) ∧ bootBuiltins (bnName b) = some (.builtin id)) ∨ (∃ T, CallR X (.type T) (rC X.K X.mg (bfn b)) ∧ bootBuiltins (bnName b) = some (.type T)) := by
  have hu := c.units
  have hc := c.calm
  cases b
  · exact .inl ⟨_, cl_len, by decide +kernel⟩
  · exact .inl ⟨_, cl_sum hc, by decide +kernel⟩
  · exact .inl ⟨_, cl_all hc, by decide +kernel⟩
  · exact .inr ⟨_, cl_tuple, by decide +kernel⟩
  · exact .inr ⟨_, cl_list hc, by decide +kernel⟩
  · exact .inr ⟨_, cl_int, by decide +kernel⟩
  · exact .inr ⟨_, cl_str, by decide +kernel⟩
  · exact .inl ⟨_, cl_abs, by decide +kernel⟩
  · exact .inl ⟨_, cl_max hc hu, by decide +kernel⟩
  · exact .inl ⟨_, cl_min hc hu, by decide +kernel⟩
  · exact .inl ⟨_, cl_sorted hu, by decide +kernel⟩
  · exact .inl ⟨_, cl_isi, by decide +kernel⟩
end

def notSet : Expr → Bool
  | .Set _ _ _ => false
  | _ => true
def notSlice : Expr → Bool
  | .Slice _ _ _ _ => false
  | _ => true
theorem plainIx {b : Expr} (h : notSlice b = true) : PlainIx b := by
  intro o i
  cases b <;> first | rfl | cases h
theorem notSet_fold {e : Expr} {env : Env} (h : notSet e = true) (x : Value) : foldedSetIterable e env x = pure x := by
  cases e <;> first | rfl | cases h
theorem notSet_in {op : CmpOp} {e : Expr} (h : notSet e = true) : behindInMarks op e = false := by
  cases e <;> first | rfl | cases h
def nmB (N : List Str) (i : Nat) (x : Str) : Bool := match N[i]? with
  | some y => decide (y = x)
  | none => false
theorem nmB_ok {N : List Str} {i : Nat} {x : Str} (h : nmB N i x = true) : N[i]? = some x := by
  unfold nmB at h
  split at h
  · rename_i y e; rw [e, of_decide_eq_true h]
  · cases h
def cnB (P : Pt) (i : Nat) (x : Str) : Bool := match P.con i with
  | some c => decide (c.1 = x)
  | none => false
theorem cnB_ok {P : Pt} {i : Nat} {x : Str} (h : cnB P i x = true) : ∃ c, P.con i = some c ∧ c.1 = x := by
  unfold cnB at h
  split at h
  · rename_i y e; exact ⟨y, e, of_decide_eq_true h⟩
  · cases h
def twB (P : Pt) (f : Nat) (x : Str) : Bool := P.tw.any fun p => decide (p.1 = f) && decide (p.2.1.name = x)
theorem twB_ok {P : Pt} {f : Nat} {x : Str} (h : twB P f x = true) : ∃ fd st, (f, fd, st) ∈ P.tw ∧ fd.name = x := by
  obtain ⟨⟨g, fd, st⟩, hp, hq⟩ := List.any_eq_true.mp h
  simp only [Bool.and_eq_true, decide_eq_true_eq] at hq
  obtain ⟨rfl, rfl⟩ := hq
  exact ⟨fd, st, hp, rfl⟩
def fnB (P : Pt) (i : Nat) (x : Str) (n : Option Nat) : Bool := match P.fn i with
  | some c => decide (c.name = x) && (match n with | some n => decide (n = c.par) | none => true)
  | none => false
theorem fnB_ok {P : Pt} {i : Nat} {x : Str} {n : Option Nat} (h : fnB P i x n = true) : ∃ c, P.fn i = some c ∧ c.name = x ∧ ∀ m, n = some m → m = c.par := by
  unfold fnB at h
  split at h
  · rename_i y e
    rw [Bool.and_eq_true] at h
    refine ⟨y, e, of_decide_eq_true h.1, fun m hm => ?_⟩
    subst hm
    exact of_decide_eq_true h.2
  · cases h
def isTup : Expr → Bool
  | .Tuple _ _ _ => true
  | _ => false
section
variable (P : Pt) (N : List Str)
mutual
def ckE (sc : Scope) (fl : Str → Bool) : Ex → Expr → Bool
  | .var i, e => match e with
    | .Name x _ => nmB N i x && visB sc x && !dbg x
    | _ => false
  | .pk i, e => match e with
    | .Name x _ => nmB N i x && visB sc x && !dbg x
    | _ => false
  | .con i, e => match e with
    | .Name x _ => cnB P i x && glB sc x && !dbg x
    | _ => false
  | .fn i, e => match e with
    | .Name x _ => fnB P i x none && glB sc x && !dbg x
    | _ => false
  | .ty j, e => match e with
    | .Name x _ => decide (j = 0 ∨ j = 1 ∨ j = 2 ∨ j = 3 ∨ j = 4) && decide (x = Str.ofString (tyName j)) && glB sc x && !dbg x
    | _ => false
  | .int i, e => match e with
    | .Constant (.int j) _ _ => decide (i = j)
    | _ => false
  | .str i, e => match e with
    | .Constant (.str j) _ _ => decide (i = j) && decide (i.length ≤ 1000000)
    | _ => false
  | .bl i, e => match e with
    | .Constant (.bool j) _ _ => decide (i = j)
    | _ => false
  | .non, e => match e with
    | .Constant .none _ _ => true
    | _ => false
  | .tup xs, e => match e with
    | .Tuple es _ _ => ckA sc fl xs es && xs.allSt && decide (xs.len ≤ 1000)
    | _ => false
  | .lst xs, e => match e with
    | .List es _ => ckA sc fl xs es && xs.allSt && decide (xs.len ≤ 1000)
    | _ => false
  | .bin bo x y, e => match e with
    | .BinOp a op b _ => decide (op = bOp bo) && ckE sc fl x a && ckE sc fl y b
    | _ => false
  | .neg x, e => match e with
    | .UnaryOp .USub a _ => ckE sc fl x a
    | _ => false
  | .not x, e => match e with
    | .UnaryOp .Not a _ => ckE sc fl x a && !x.isIte
    | _ => false
  | .and x y, e => match e with
    | .BoolOp .And (a :: b :: r) pos => ckE sc fl x a && !x.isIte && x.st && ckE sc fl y (.BoolOp .And (b :: r) pos) && y.isBo && y.st
    | _ => false
  | .or x y, e => match e with
    | .BoolOp .Or (a :: b :: r) pos => ckE sc fl x a && !x.isIte && x.st && ckE sc fl y (.BoolOp .Or (b :: r) pos) && y.isBo && y.st
    | _ => false
  | .one x, e => match e with
    | .BoolOp _ [a] _ => ckE sc fl x a && !x.isIte && x.st
    | _ => false
  | .cmp bo x y, e => match e with
    | .Compare a [op] [b] _ => decide (op = cOp bo) && notSet b && ckE sc fl x a && ckE sc fl y b
    | _ => false
  | .chn bo bo' x y z, e => match e with
    | .Compare a [op, op'] [b, c] _ => decide (op = cOp bo) && decide (op' = cOp bo') && notSet c && ckE sc fl x a && ckE sc fl y b && ckE sc fl z c
    | _ => false
  | .ite z x y, e => match e with
    | .IfExp c a b _ => ckE sc fl z c && !z.isIte && ckE sc fl x a && ckE sc fl y b && x.st && y.st
    | _ => false
  | .sub x y, e => match e with
    | .Subscript a b _ => notSlice b && ckE sc fl x a && ckE sc fl y b
    | _ => false
  | .sl x l h, e => match e with
    | .Subscript a (.Slice lo hi none _) _ => ckE sc fl x a && ckO sc fl l lo && ckO sc fl h hi
    | _ => false
  | .sls x l h st, e => match e with
    | .Subscript a (.Slice lo hi (some se) _) _ => ckE sc fl x a && ckO sc fl l lo && ckO sc fl h hi && stpB se st
    | _ => false
  | .call f xs, e => match e with
    | .Call (.Name x _) es [] _ => fnB P f x (some xs.len) && glB sc x && !dbg x && xs.allSt && es.all noStar && ckA sc fl xs es
    | _ => false
  | .callv i js xs, e => match e with
    | .Call (.Name x _) (a :: es) [] _ => nmB N i x && visB sc x && !dbg x && (js.all fun j => match P.fn j with | some c => decide (xs.len = c.par) | none => false) && xs.allSt && (a :: es).all noStar && ckA sc fl xs (a :: es)
    | _ => false
  | .bc b xs, e => match e with
    | .Call (.Name x _) es [] _ => decide (x = bnName b) && glB sc x && es.all noStar && !es.isEmpty && ckA sc fl xs es
    | _ => false
  | .mt m o xs, e => match e with
    | .Call (.Attribute a nm apos) es [] cpos => decide (nm = mName m) && (apos.endLine == cpos.line) && basePlain a && es.all noStar && decide (es.length < 30) && ckA sc fl xs es &&
        match m with
        | .indexT => (match o with
          | .con i => (match a with
            | .Name x _ => cnB P i x && glB sc x && !dbg x && decide (es.length = 1)
            | _ => false)
          | _ => false)
        | _ => ckE sc fl o a
    | _ => false
  | .lc t s c x, e => match e with
    | .ListComp elt [⟨tg, iter, ifs, 0⟩] scope _ => x.st && ckR sc fl s tg iter && blkC N sc scope (t.slots.map fun i => (N.getD i "", i)) && decide (scope.kind = .function) && notSet iter &&
        chkT N (relS scope sc) (blkFl scope) tg t && ckC (relS scope sc) (blkFl scope) c ifs && ckE (relS scope sc) (blkFl scope) x elt
    | _ => false
  | .lrng xs, e => match e with
    | .Call (.Name x _) [.Call (.Name y _) es [] _] [] _ => decide (x = "list") && glB sc "list" && decide (y = "range") && glB sc "range" && ckA sc fl xs es && (decide (es.length = 1) || decide (es.length = 3))
    | _ => false
  | .repl _ _ _, _ => false
  | .lack f l c r, e => match e with
    | .Call (.Name nm _) [.BinOp (.BinOp el .Add (.Constant (.str c') _ _) _) .Add er _] [] _ => twB P f nm && glB sc nm && !dbg nm && decide (c = c') && decide (c.length ≤ 1000000) && l.st && r.st && ckE sc fl l el && ckE sc fl r er
    | _ => false
  | .lackc f c, e => match e with
    | .Call (.Name nm _) [.Constant (.str c') _ _] [] _ => twB P f nm && glB sc nm && !dbg nm && decide (c = c') && decide (c.length ≤ 1000000)
    | _ => false
  | .getd i xs, e => match e with
    | .Subscript (.Name y _) (.Tuple es _ _) _ => nmB N i y && visB sc y && !dbg y && xs.allSt && decide (xs.len ≤ 1000) && ckA sc fl xs es
    | _ => false
  | .inr x y, e => match e with
    | .Compare a [.In] [.Call (.Name n _) [b] [] _] _ => decide (n = "range") && glB sc "range" && noStar b && ckE sc fl x a && ckE sc fl y b
    | _ => false
def ckA (sc : Scope) (fl : Str → Bool) : Exs → List Expr → Bool
  | .nil, es => match es with
    | [] => true
    | _ => false
  | .cons x xs, es => match es with
    | e :: es => noStar e && ckE sc fl x e && ckA sc fl xs es
    | _ => false
def ckO (sc : Scope) (fl : Str → Bool) : Ox → Option Expr → Bool
  | .no, e => match e with
    | none => true
    | _ => false
  | .some x, e => match e with
    | some e => ckE sc fl x e
    | _ => false
def ckC (sc : Scope) (fl : Str → Bool) : Oc → List Expr → Bool
  | .no, e => match e with
    | [] => true
    | _ => false
  | .some x, e => match e with
    | [e] => ckE sc fl x e && !x.isIte
    | _ => false
def ckR (sc : Scope) (fl : Str → Bool) : Sr → Expr → Expr → Bool
  | .it x, tg, e => ckE sc fl x e && x.st
  | .rng xs, tg, e => match e with
    | .Call (.Name x _) es [] _ => decide (x = "range") && glB sc "range" && ckA sc fl xs es && (decide (es.length = 1) || decide (es.length = 2) || decide (es.length = 3))
    | _ => false
  | .enum x, tg, e => match e with
    | .Call (.Name n _) [a] [] _ => decide (n = "enumerate") && glB sc "enumerate" && noStar a && x.st && ckE sc fl x a && isTup tg
    | _ => false
  | .zip x y, tg, e => match e with
    | .Call (.Name n _) [a, b] [] _ => decide (n = "zip") && glB sc "zip" && noStar a && noStar b && x.st && y.st && ckE sc fl x a && ckE sc fl y b && isTup tg
    | _ => false
end
end

section
variable {L : Lg} {k : Nat} {N : List Str}
/-- the check's promise -/
def OkE (L : Lg) (X : Cx) (W : WX) (x : Ex) (e : Expr) : Prop :=
  PE X e (TEx X.K X.mg L W x) ∧ (x.isIte = false → PT X e (TTx X.K X.mg L W x)) ∧ (x.isBo = true → PW X e (TTx X.K X.mg L W x))
theorem okE_of {X : Cx} {W : WX} {x : Ex} {e : Expr} (h : PE X e (TEx X.K X.mg L W x)) (hb : x.isBo = false) (he : ∀ whole, isTrue e X.env whole = (do let v ← whole; standAt e.pos; holding [v] (truthy v))) : OkE L X W x e :=
  ⟨h, fun _ => s_tru h he, fun z => by rw [hb] at z; cases z⟩
theorem ckA_len : ∀ {xs : Exs} {es : List Expr} {sc : Scope} {fl : Str → Bool}, ckA L.P N sc fl xs es = true → es.length = xs.len ∧ es.all noStar = true ∧ (es = [] → xs = .nil)
  | .nil, [], _, _, _ => ⟨rfl, rfl, fun _ => rfl⟩
  | .nil, _ :: _, _, _, h => by simp [ckA] at h
  | .cons x xs, [], _, _, h => by simp [ckA] at h
  | .cons x xs, e :: es, sc, fl, h => by
    simp only [ckA, Bool.and_eq_true] at h
    obtain ⟨h1, h2, _⟩ := ckA_len h.2
    exact ⟨by rw [List.length_cons, h1]; rfl, by rw [List.all_cons, h.1.1, h2]; rfl, fun z => by cases z⟩
end
end Bg

set_option Elab.async false
set_option linter.all false
set_option maxRecDepth 100000
set_option maxHeartbeats 4000000
/-! [f for f in text if test], where the test may ask which object f is. -/
namespace Bg
open PySem PySem.Spec PyProof.Rows L2

/-- what a local name holds, the object itself -/
def RawAt (X : Cx) (x : Str) (u : Value) (s : Shared) : Prop := ∃ m, s.heap.Ns X.env.locals m ∧ m x = some u
section
variable {X : Cx} {pins : List (Addr × Obj)} {σ : L2.St} {H : Hp} {s : Shared}
theorem store_raw {M : Model} {A : Around} {E : Value → Shared → Prop} {i : Nat} {x : Str} {v : V} {u : Value} {Q : Unit → Shared → Prop} (I : Inv X pins σ H s) (hN : X.N.Nodup) (hi : X.N[i]? = some x) (hk : X.env.scope.names.lookup x = some .local) (r : RelV v u)
    (q : ∀ s', s'.toks = s.toks + 1 → RawAt X x u s' → Inv X pins (σ.set i (some v)) H s' → Q () s') : wpAny M A (storeName X.env x u) Q E s := by
  obtain ⟨m0, n0, l0⟩ := id I.loc
  have kd : (X.env.scope.kind == .class || (X.env.scope.kind == .module && X.env.locals != X.env.globals)) = false := by rw [I.ok.kind]; rfl
  have il : i < σ.length := by rw [I.len]; exact (List.getElem?_eq_some_iff.mp hi).1
  refine wpAny_storeName_local hk n0 (fun h1 n1 sb => ?_) kd
  have old : ∀ b, b ≠ X.env.locals → ∀ o, s.heap.get? b = some o → h1.get? b = some o := fun b hb o e => (sb.2 b hb).trans e
  have low : ∀ b o, X.s_0.heap.get? b = some o → b ≠ X.env.locals := fun b o e => Nat.ne_of_lt (Nat.lt_of_lt_of_le (Heap.lt_size e) I.ok.above)
  refine q _ rfl ⟨_, n1, by simp⟩ ?_
  refine ⟨I.ok, I.os, I.bare, ⟨fun b o e n h2 h3 => old b (low b o e) _ (I.base.keep b o e n h2 h3), fun b o e n h2 h3 => ?_, I.base.free, fun b o e h2 => ?_, I.base.tups, I.base.frzs, I.base.tbls⟩,
    ⟨_, n1, fun j y w e1 e2 e3 => ?_⟩, fun y c e => ?_, I.free, I.freeC, fun p hp => ?_, fun b ob e => ?_, by rw [List.length_set]; exact I.len⟩
  · obtain ⟨sl, e1⟩ := I.base.slot b o e n h2 h3
    exact ⟨sl, old b (low b o e) _ e1⟩
  · obtain ⟨o2, e1⟩ := I.base.there b o e h2
    exact ⟨o2, old b (low b o e) _ e1⟩
  · by_cases hj : j = i
    · subst hj
      rw [hi] at e1
      cases e1
      rw [List.getElem?_set_self il] at e2
      cases e2
      exact ⟨u, r, .inl ⟨hk, by simp⟩⟩
    · rw [List.getElem?_set_ne (Ne.symm hj)] at e2
      obtain ⟨u2, r2, k⟩ := l0 j y w e1 e2 e3
      refine ⟨u2, r2, ?_⟩
      rcases k with ⟨k, e⟩ | ⟨k, c, e, z⟩
      · have ne : y ≠ x := fun e => hj (nodup_ix hN e1 (e ▸ hi))
        exact .inl ⟨k, by simp [ne, e]⟩
      · exact .inr ⟨k, c, e, z.sameBut sb (I.cne y c e)⟩
  · obtain ⟨w, z⟩ := I.cell y c e
    exact ⟨w, z.sameBut sb (I.cne y c e)⟩
  · obtain ⟨e, n, ne, nf, d⟩ := I.pin p hp
    exact ⟨old p.1 ne _ e, n, ne, nf, d⟩
  · refine (I.hok b ob e).stay (fun c w hc k => old c ?_ _ k) (fun _ k => k) fun _ _ k => k
    intro z
    rcases hc with z2 | z2
    · rw [← z2, z, I.free] at e; cases e
    · rw [z, I.free] at z2; cases z2
end

/-- a test that is run at states of which more is known -/
def PTsR (X : Cx) (R : Shared → Prop) (ifs : List Expr) (t : TT) : Prop :=
  ∀ (pins : List (Addr × Obj)) (s : Shared) (σ : L2.St) (H : Hp) (Q : Bool → Hp → Prop), R s → Inv X pins σ H s → t σ H Q →
    wpAny (model X.prog X.w) X.A (forIn ifs true fun c r => if r = true then do let ok ← isTrue c X.env (eval c X.env); pure (ForInStep.yield ok) else pure (ForInStep.yield r)) (TP X pins σ Q) X.xe s
/-- the name f holds a sign whose object is known -/
def RawF (X : Cx) (f : Str) (s : Shared) : Prop := ∃ c t, RawAt X f (.str ⟨#[c]⟩ t) s ∧ t ≠ 0 ∧ t < s.toks

theorem thnT {α : Type} {t : Sem α} {Q Q' : α → Shared → Prop} {M : Model} {A : Around} {E : Value → Shared → Prop} {s : Shared} (h : wpAny M A t Q (fun _ _ => False) s) (hQ : ∀ a s', s.toks ≤ s'.toks → Q a s' → Q' a s') : wpAny M A t Q' E s :=
  wpAny_mono (wpAny_toks h) (fun a s' q => hQ a s' q.1 q.2) fun _ _ z => z.2.elim
/-- an iterator over a text has come -/
def Come (X : Cx) (pins : List (Addr × Obj)) (σ : L2.St) (z : Str) (R : It → Hp → Prop) (itv : Value) (s2 : Shared) : Prop :=
  ∃ (it : Addr) (t : Tok) (H2 : Hp), itv = .ref it ∧ Inv X pins σ H2 s2 ∧ s2.heap.IsStrIter it "str_ascii_iterator" z t 0 ∧ FpOk X pins H2 it ∧ 1 ≤ s2.toks ∧ R (Its z) H2
section
variable {X : Cx}
theorem rl_core {pins : List (Addr × Obj)} {s : Shared} {σ : L2.St} {H : Hp} {Q : VK} {f : Str} {i : Nat} {pf pg : Pos} {iter : Expr} {ifs : List Expr} {scope : Scope} {pos pos' : Pos} {wi : TI} {tt : TT} {te : TE} {use : Option (Value → Sem Unit)} {Qf : Value → Shared → Prop} {z : Str}
    (hc : X.calm = true) (hN : X.N.Nodup) (hfi : X.N[i]? = some f) (hlf : scope.names.lookup f = some .local) (I0 : Inv X pins σ H s) (ok : BlkOk X.N X.env.scope scope [(f, i)])
    (hi : ∀ R, wi σ H R → wpAny (model X.prog X.w) X.A (eval iter X.env) (fun v s1 => wpAny (model X.prog X.w) X.A (pyIter v) (Come X pins σ z R) X.xe s1) X.xe s)
    (ht : ∀ (s : Shared) (H : Hp) (C : Addr) (cl : List (Str × Addr)) (fp : List Addr), PTsR (X.blk s H scope (compEnvC scope cl C X.env) fp) (RawF (X.blk s H scope (compEnvC scope cl C X.env) fp) f) ifs tt)
    (he : ∀ (s : Shared) (H : Hp) (C : Addr) (cl : List (Str × Addr)) (fp : List Addr), PE (X.blk s H scope (compEnvC scope cl C X.env) fp) (.Name f pf) te) (hs : ∀ x, foldedSetIterable iter X.env x = pure x)
    (h : tLc wi (gName i) tt te [i] σ H Q)
    (hEnd : ∀ D C s' m H', Inv X pins σ H' s' → Q (.ref D) H' → s'.heap.Ns C m → FpOk X pins H' C → compPost (model X.prog X.w) X.A X.xe use Qf (.ref D) C (.ok .next) s') :
    wpAny (model X.prog X.w) X.A (comprehension (.ListComp (.Name f pf) [⟨.Name f pg, iter, ifs, 0⟩] scope pos) scope X.env pos' (newList []) false (eval iter X.env) use) Qf X.xe s := by
  have fr : ∀ y ∈ scope.names, y.2 = .free → ∃ c, X.env.cells.lookup y.1 = some c := fun y hy e => (ok.free y hy e).elim (fun k => I0.ok.has _ (.inl k)) (fun k => I0.ok.has _ (.inr k))
  refine wpAny_comprehension_free (use := use) rfl hs (closure_ok fr) ok.kind (fun y hy e => by rw [ok.uniq y hy, e]) (thn (hi _ h) fun xv s1 hx => thn hx fun itv s2 h2 => ?_)
  obtain ⟨it, t, H2, e, I2, st2, f2, tk2, q⟩ := h2
  subst e
  have T : Turn X.prog X.w X.K (.Name f pg) (Its z) [it] it (fun i h => h.IsStrIter it "str_ascii_iterator" z t i) := turn_str it z t _ (.inl rfl)
  refine wpAny_newObj_type (newEnv_comp ?_) (by show 0 ≤ sizeLine; decide)
  generalize eD : s2.heap.objs.size = D
  have nD : H2 D = none := I2.hok.fresh (Nat.le_of_eq eD)
  obtain ⟨W, ⟨m0, w0⟩, go⟩ := q D nD
  generalize es3 : ({ s2 with heap := s2.heap.push { cls := .type "list", data := .seq ([] : List Value).toArray } } : Shared) = s3
  have tk3 : 1 ≤ s3.toks := by rw [← es3]; exact tk2
  have eh3 : s3.heap = s2.heap.push { cls := .type "list", data := .seq ([] : List Value).toArray } := by rw [← es3]
  have I3 : Inv X pins σ (upd H2 D (.lst [])) s3 := by
    rw [← es3]
    exact I2.laid (t' := s2.toks) (fun b o e => Heap.get?_push_of_some _ e) (Nat.le_of_eq eD) ⟨Nat.zero_le _, [], 0, .nil, by rw [← eD]; exact Heap.get?_push_size _ rfl⟩
  obtain ⟨oi, ei, ci, di⟩ := id st2
  have lit : it < s2.heap.objs.size := Heap.lt_size ei
  have hitD : it ≠ D := by rw [← eD]; exact Nat.ne_of_lt lit
  have f3 : ∀ b ∈ [it], FpOk X pins (upd H2 D (.lst [])) b ∧ b < s3.heap.objs.size := fun b hb => by
    have e : b = it := by simpa using hb
    subst e
    exact ⟨⟨by rw [upd_ne hitD]; exact f2.1, f2.2⟩, by rw [eh3, Heap.size_push]; exact Nat.lt_succ_of_lt lit⟩
  have st3 : s3.heap.IsStrIter it "str_ascii_iterator" z t 0 := ⟨oi, by rw [eh3]; exact Heap.get?_push_of_some _ ei, ci, di⟩
  have I4 := block_start I3 ok hN f3
  have pt := ht s3 (upd H2 D (.lst [])) s3.heap.objs.size (cellsFrom (s3.heap.objs.size + 1) scope.names (cloFrom X.env.cells scope.names [])) [it]
  have pe := he s3 (upd H2 D (.lst [])) s3.heap.objs.size (cellsFrom (s3.heap.objs.size + 1) scope.names (cloFrom X.env.cells scope.names [])) [it]
  show codeAny _ _ (.compStart (.ListComp (.Name f pf) [⟨.Name f pg, iter, ifs, 0⟩] scope pos) 0 (.ref it) (.ref D) (compEnvC scope (cellsFrom (s3.heap.objs.size + 1) scope.names (cloFrom X.env.cells scope.names [])) s3.heap.objs.size X.env)) (compPost (model X.prog X.w) X.A X.xe use Qf (.ref D) s3.heap.objs.size) { s3 with heap := pushCells (s3.heap.push { cls := .type "dict", data := .dict #[] }) scope.names }
  have hsc : (compEnvC scope (cellsFrom (s3.heap.objs.size + 1) scope.names (cloFrom X.env.cells scope.names [])) s3.heap.objs.size X.env).scope = relS scope X.env.scope := rfl
  generalize ece : compEnvC scope (cellsFrom (s3.heap.objs.size + 1) scope.names (cloFrom X.env.cells scope.names [])) s3.heap.objs.size X.env = ce at I4 pt pe hsc ⊢
  have cL : ce.locals = s3.heap.objs.size := by subst ece; rfl
  have hkf : ce.scope.names.lookup f = some .local := by rw [hsc]; exact lookup_relS_keep (by decide) hlf
  generalize eH3 : upd H2 D (.lst []) = H3 at I3 I4 pt pe w0 f3
  generalize es4 : ({ s3 with heap := pushCells (s3.heap.push { cls := .type "dict", data := .dict #[] }) scope.names } : Shared) = s4 at I4 ⊢
  have tk4 : 1 ≤ s4.toks := by rw [← es4]; exact tk3
  have st4 : s4.heap.IsStrIter it "str_ascii_iterator" z t 0 := T.keep 0 _ _ st3 fun b _ o e => by rw [← es4]; exact pushCells_keeps _ _ _ _ (Heap.get?_push_of_some _ e)
  have fpk : ∀ {σ' : L2.St} {H' : Hp} {s' : Shared}, Inv (X.blk s3 H3 scope ce [it]) [] σ' H' s' → H' it = none → ∀ b ∈ [it], FpOk (X.blk s3 H3 scope ce [it]) [] H' b := fun {σ' H' s'} J hn b hb => by
    have e : b = it := by simpa using hb
    subst e
    exact ⟨hn, (J.ok.exf b hb).1, J.ok.exfs b hb, .inl hb, fun x c e => (J.ok.exf b hb).2 x c e, fun p hp => absurd (show p ∈ ([] : List (Addr × Obj)) ++ [] from hp) (by simp)⟩
  have loop : codeAny (model X.prog X.w) X.A (.compLoop (.ListComp (.Name f pf) [⟨.Name f pg, iter, ifs, 0⟩] scope pos) 0 (.ref it) (.ref D) ce) (compPost (model X.prog X.w) X.A X.xe use Qf (.ref D) s3.heap.objs.size) s4 := by
    refine compLoop_any (fun n s' => ∃ k H', Inv (X.blk s3 H3 scope ce [it]) [] (wipe σ [i]) H' s' ∧ s'.heap.IsStrIter it "str_ascii_iterator" z t k ∧ H' it = none ∧ 1 ≤ s'.toks ∧ W k n H') ?_ m0 ⟨0, H3, I4, st4, by rw [← eH3, upd_ne hitD]; exact f2.1, tk4, w0⟩
    rintro n s5 ⟨k, H5, I5, st5, n5, tk5, w5⟩
    rcases go k n H5 w5 with ⟨stop, qq⟩ | ⟨gn, Nx, hNx, step⟩
    · refine thnF (T.done (X.blk s3 H3 scope ce [it]) rfl rfl rfl hc k [] s5 _ H5 (fun _ _ => False) I5 (fpk I5 n5) st5 stop) fun r s6 ⟨hr, I6⟩ => ?_
      subst hr
      have I7 : Inv X pins σ H5 s6 := I3.call' (ch := [it]) I6.os I6.base I6.hok I6.bare fun b hb => ⟨(f3 b hb).1.2.2.2.1, (f3 b hb).1.2.1, (f3 b hb).1.2.2.2.2.1, (f3 b hb).1.2.2.2.2.2⟩
      have nC : H5 s3.heap.objs.size = none := by
        have q1 : H5 ce.locals = none := I6.free
        rw [cL] at q1
        exact q1
      obtain ⟨m, hn, _⟩ := I6.loc
      have hn2 : s6.heap.Ns ce.locals m := hn
      rw [cL] at hn2
      exact hEnd D s3.heap.objs.size s6 m H5 I7 qq hn2 (I3.fpOk (Nat.le_refl _) nC)
    · have gk : k < z.cps.size := gn
      have hcx : z.cps[k]? = some z.cps[k] := Array.getElem?_eq_getElem gk
      generalize z.cps[k] = c at hcx
      obtain ⟨a0, a1, a2, a3, a4, a5⟩ := fpk I5 n5 it (by simp)
      refine wpAny_pyNext_ascii_item st5 hcx fun h6 st6 sb6 => ?_
      have I6 : Inv (X.blk s3 H3 scope ce [it]) [] (wipe σ [i]) H5 { s5 with heap := h6, toks := s5.toks + 1 } := I5.turned (fun b o hb e => (sb6.2 b hb).trans e) a0 a1 a3 a4 a5
      obtain ⟨o6, e6, c6, d6⟩ := id st6
      refine go_of (s := { s5 with heap := h6, toks := s5.toks + 1 }) e6 c6 d6 (by decide) ?_
      have I7 := I6.pinned (fpk I6 n5) (T.obj _ _ st6)
      obtain ⟨hw8, q8⟩ := step (.str ⟨#[c]⟩) H5 ⟨rfl, c, hcx, rfl⟩
      refine wpAny_assign_Name (store_raw (v := .str ⟨#[c]⟩) I7 hN hfi hkf ⟨_, rfl⟩ fun s8 tk8 r8 I8 => ?_)
      have tk8' : s8.toks = s5.toks + 1 + 1 := tk8
      have rf : RawF (X.blk s3 H3 scope ce [it]) f s8 := ⟨c, s5.toks, r8, by show s5.toks ≠ 0; omega, by show s5.toks < s8.toks; omega⟩
      refine thnT (pt _ s8 _ H5 _ rf I8 q8) fun b s9 t9 ⟨H9, I9, q9⟩ => ?_
      have fin : ∀ {s' : Shared} {H' : Hp}, s8.toks ≤ s'.toks → Inv (X.blk s3 H3 scope ce [it]) ([] ++ pinsAt [it] h6) ((wipe σ [i]).set i (some (.str ⟨#[c]⟩))) H' s' → Nx H' →
          ∃ m, m < n ∧ ∃ k H', Inv (X.blk s3 H3 scope ce [it]) [] (wipe σ [i]) H' s' ∧ s'.heap.IsStrIter it "str_ascii_iterator" z t k ∧ H' it = none ∧ 1 ≤ s'.toks ∧ W k m H' := fun {s' H'} tk' I' nx => by
        obtain ⟨m', hm, w'⟩ := hNx H' nx
        obtain ⟨p1, p2, _⟩ := I'.pin (it, o6) (List.mem_append_right _ (List.mem_append_right _ (mem_pinsAt (by simp) e6)))
        have hl : (wipe σ [i]).length = ((wipe σ [i]).set i (some (V.str ⟨#[c]⟩))).length := by rw [List.length_set]
        refine ⟨m', hm, k + 1, H', (I'.unpinned (pins := [])).weak hl (fun j v e => ?_), ⟨o6, p1, c6, d6⟩, p2, by omega, w'⟩
        rw [← hw8] at e
        exact (wipe_some e).1
      cases b with
      | false =>
        simp only [Bool.false_eq_true, if_false] at q9 ⊢
        exact fin t9 I9 q9
      | true =>
        simp only [if_true] at q9 ⊢
        refine thnT (pe.run _ s9 _ H9 _ I9 q9) fun zv s10 t10 ⟨yv, H10, I10, r10, acc, hD10, hz10, nx⟩ => ?_
        refine thnT (app_ok (X := X.blk s3 H3 scope ce [it]) (E := fun _ _ => False) (Q := fun _ s' => Inv (X.blk s3 H3 scope ce [it]) ([] ++ pinsAt [it] h6) ((wipe σ [i]).set i (some (.str ⟨#[c]⟩))) (upd H10 D (.lst (acc ++ [yv]))) s') I10 hD10 hz10 r10 fun s11 I11 => I11) fun _ s11 t11 I11 => ?_
        exact fin (Nat.le_trans t9 (Nat.le_trans t10 t11)) I11 nx
  exact codeAny_compStart_list loop (T.self X.A 0 _ _ _ st4 loop)
end
end Bg

set_option Elab.async false
set_option linter.all false
set_option maxRecDepth 100000
set_option maxHeartbeats 4000000
/-! Rules at states of which more is known. -/
namespace Bg
open PySem PySem.Spec PyProof.Rows L2

def PEr (X : Cx) (R : Shared → Prop) (e : Expr) (t : TE) : Prop :=
  ∀ (pins : List (Addr × Obj)) (s : Shared) (σ : L2.St) (H : Hp) (Q : VK), R s → Inv X pins σ H s → t σ H Q → wpAny (model X.prog X.w) X.A (eval e X.env) (EP X pins σ Q) X.xe s
def PTr (X : Cx) (R : Shared → Prop) (e : Expr) (t : TT) : Prop :=
  ∀ (pins : List (Addr × Obj)) (s : Shared) (σ : L2.St) (H : Hp) (Q : Bool → Hp → Prop), R s → Inv X pins σ H s → t σ H Q → wpAny (model X.prog X.w) X.A (isTrue e X.env (eval e X.env)) (TP X pins σ Q) X.xe s
/-- some object has been made -/
def Tk (s : Shared) : Prop := 1 ≤ s.toks
/-- an evaluation that makes an object -/
def PEm (X : Cx) (e : Expr) (t : TE) : Prop :=
  ∀ (pins : List (Addr × Obj)) (s : Shared) (σ : L2.St) (H : Hp) (Q : VK), Inv X pins σ H s → t σ H Q → wpAny (model X.prog X.w) X.A (eval e X.env) (fun u s' => Tk s' ∧ EP X pins σ Q u s') X.xe s
theorem thnM {α : Type} {t : Sem α} {Q Q' : α → Shared → Prop} {M : Model} {A : Around} {E : Value → Shared → Prop} {s : Shared} (h : wpAny M A t Q E s) (hQ : ∀ a s', s.toks ≤ s'.toks → Q a s' → Q' a s') : wpAny M A t Q' E s :=
  wpAny_mono (wpAny_toks h) (fun a s' q => hQ a s' q.1 q.2) fun _ _ z => z.2
section
variable {L : Lg} {k : Nat} {N : List Str} {sc : Scope} {fl : Str → Bool} {W : WX} {X : Cx} {R : Shared → Prop}
theorem PE.r {e : Expr} {t : TE} (h : PE X e t) : PEr X R e t := fun pins s σ H Q _ I q => h.run pins s σ H Q I q
theorem PEr.imp {e : Expr} {t t' : TE} (h : PEr X R e t) (i : ∀ σ H Q, t' σ H Q → t σ H Q) : PEr X R e t' := fun pins s σ H Q r I q => h pins s σ H Q r I (i σ H Q q)
theorem bin_imp {bo : Bop} {x y : Ex} {σ : L2.St} {H : Hp} {Q : VK} {K : PySem.W.Frag} {mg : Str → Option Value} (h : TEx K mg L W (.bin bo x y) σ H Q) : tOp (rB K mg (bop bo)) (TEx K mg L W x) (TEx K mg L W y) σ H Q := by
  obtain ⟨H0, G0, ρ, G, o, h⟩ := h
  simp only [evE] at h
  refine ev1 o h fun d v H1 G1 g1 o1 r1 h1 => ev1 o1 h1 fun e w H2 G2 g2 o2 r2 h2 => ?_
  obtain ⟨z, ez, f⟩ := h2.ofO
  exact ⟨G2, d, e, z, o2.same, r1.rs.gr g2, r2.rs, ez, f⟩
theorem sub_imp {x y : Ex} {σ : L2.St} {H : Hp} {Q : VK} {K : PySem.W.Frag} {mg : Str → Option Value} (h : TEx K mg L W (.sub x y) σ H Q) : tOp (rB K mg ixD) (TEx K mg L W x) (TEx K mg L W y) σ H Q := by
  obtain ⟨H0, G0, ρ, G, o, h⟩ := h
  simp only [evE] at h
  refine ev1 o h fun d v H1 G1 g1 o1 r1 h1 => ev1 o1 h1 fun e w H2 G2 g2 o2 r2 h2 => ?_
  obtain ⟨z, ez, f⟩ := h2.ofO
  exact ⟨G2, d, e, z, o2.same, r1.rs.gr g2, r2.rs, ez, f⟩
/-- a op b, of a more is known -/
theorem r_bin {op : Operator} {bo : Bop} {a b : Expr} {x y : Ex} {pos : Pos} (ho : OpR X (binaryOp op) (rB X.K X.mg (bop bo))) (ha : PEr X R a (TEx X.K X.mg L W x)) (hb : PE X b (TEx X.K X.mg L W y)) : PEr X R (.BinOp a op b pos) (TEx X.K X.mg L W (.bin bo x y)) := by
  intro pins s σ H Q r I h
  exact wpAny_BinOp (thn (ha pins s σ H _ r I (bin_imp h)) fun v s1 ⟨x1, H1, I1, r1, q1⟩ => thn (hb.run pins s1 σ H1 _ I1 q1) fun u s2 ⟨y1, H2, I2, r2, q2⟩ => ho pins s2 σ H2 x1 y1 v u Q I2 r1 r2 q2)
theorem r_sub {a b : Expr} {x y : Ex} {pos : Pos} (hp : PlainIx b) (ha : PEr X R a (TEx X.K X.mg L W x)) (hb : PE X b (TEx X.K X.mg L W y)) : PEr X R (.Subscript a b pos) (TEx X.K X.mg L W (.sub x y)) := by
  intro pins s σ H Q r I h
  exact Subscript_ (thn (ha pins s σ H _ r I (sub_imp h)) fun v s1 ⟨x1, H1, I1, r1, q1⟩ => thn (hb.run pins s1 σ H1 _ I1 q1) fun u s2 ⟨y1, H2, I2, r2, q2⟩ => ix_D a b pins s2 σ H2 x1 y1 v u Q I2 r1 r2 q2 (hp _ _))
theorem r_tru {e : Expr} {x : Ex} (h : PEr X R e (TEx X.K X.mg L W x)) (he : ∀ whole, isTrue e X.env whole = (do let v ← whole; standAt e.pos; holding [v] (truthy v))) : PTr X R e (TTx X.K X.mg L W x) := by
  intro pins s σ H Q r I q
  obtain ⟨H0, G0, ρ, G, o, q⟩ := q
  exact isTrue_plain (thn (h pins s σ H _ r I ⟨H0, G0, ρ, G, o, q.tru⟩) fun v s1 ⟨x1, H1, I1, r1, q1⟩ => tru_ok pins s1 σ H1 x1 v Q I1 r1 q1) (he _)
theorem r_cmp {op : CmpOp} {bo : Cop} {a b : Expr} {x y : Ex} {pos : Pos} (ho : OpR X (compareOp op) (rB X.K X.mg (cop bo))) (hm : behindInMarks op b = false) (ha : PEr X R a (TEx X.K X.mg L W x)) (hb : PE X b (TEx X.K X.mg L W y)) :
    PTr X R (.Compare a [op] [b] pos) (TTx X.K X.mg L W (.cmp bo x y)) := by
  intro pins s σ H Q r I q
  have core : ∀ Q, TEx X.K X.mg L W (.cmp bo x y) σ H Q → tOp (rB X.K X.mg (cop bo)) (TEx X.K X.mg L W x) (TEx X.K X.mg L W y) σ H Q := fun Q h => by
    obtain ⟨H0, G0, ρ, G, o, h⟩ := h
    simp only [evE] at h
    refine ev1 o h fun d v H1 G1 g1 o1 r1 h1 => ev1 o1 h1 fun e w H2 G2 g2 o2 r2 h2 => ?_
    obtain ⟨z, ez, f⟩ := h2.ofO
    exact ⟨G2, d, e, z, o2.same, r1.rs.gr g2, r2.rs, ez, f⟩
  obtain ⟨H0, G0, ρ, G, o, q⟩ := q
  have h := core _ ⟨H0, G0, ρ, G, o, q.tst fun d e => by
    simp only [evE] at e
    obtain ⟨_, _, e⟩ := bind_ok_inv e
    obtain ⟨_, _, e⟩ := bind_ok_inv e
    exact cop_bool (ofO_ok_inv e)⟩
  refine wpAny_isTrue_Compare1 (thn (ha pins s σ H _ r I h) fun v s1 ⟨x1, H1, I1, r1, q1⟩ => thn (hb.run pins s1 σ H1 _ I1 q1) fun u s2 ⟨y1, H2, I2, r2, q2⟩ =>
    thn (ho pins s2 σ H2 x1 y1 v u _ I2 r1 r2 q2) fun cv s3 ⟨z, H3, I3, r3, kk, e, q3⟩ => ?_) hm
  subst e
  cases r3
  exact wpAny_truthy_bool ⟨H3, I3, q3⟩
/-- a def called with one part, of which more is known -/
theorem r_call1 (c : Ctx L k N sc fl W X) {f : Nat} {fd : Fd} (hf : L.P.fn f = some fd) {x : Str} {p pos : Pos} {e : Expr} {y : Ex} (hx : fd.name = x) (hg : glB sc x = true) (hd : dbg x = false) (hst : y.st = true) (hl : 1 = fd.par) (hns : noStar e = true)
    (ha : PEr X R e (TEx X.K X.mg L W y)) : PEr X R (.Call (.Name x p) [e] [] pos) (TEx X.K X.mg L W (.call f (.cons y .nil))) := by
  obtain ⟨d1, d2, _⟩ := dbg_ok hd
  obtain ⟨a, data, e1, kp, bd, F⟩ := c.fns f fd hf
  have e1' := e1
  rw [hx] at e1'
  intro pins s σ H Q r I h
  refine wpAny_Call_Name_kw (ld_glob I (c.gl hg) e1' ?_ d1)
  obtain ⟨H0, G0, ρ, G, o, h⟩ := h
  simp only [evE, evL] at h
  have q : TEx X.K X.mg L W y σ H (fun v H1 => ∃ G1 d, Same G1 H1 ∧ Rp X.K X.mg G1 v d ∧ Wn X.K X.mg L W σ H1 G1 true (L.cl f [d]) Q) := by
    refine ⟨H0, G0, ρ, G, o, ?_⟩
    cases q : evE L.U L.cl ρ y with
    | no => rw [q] at h; exact h
    | ex c => rw [q] at h; exact h
    | ok d =>
      rw [q] at h
      intro v H1 G1 g1 r1
      rw [hst] at r1
      exact ⟨G1, d, g1.s, r1, h.grow g1⟩
  refine PySem.W.callWith_K (h₀ := X.base) I.ok.mod.kin kp ?_ (star1 hns) rfl
  rw [star1 hns]
  refine Calls.spliced_cons (thn (ha pins s σ H _ r I q) fun u s1 ⟨v, H1, I1, r1, G1, d, s0, rp, w⟩ => ?_)
  refine Calls.spliced_nil ⟨I1.kIn, ?_⟩
  exact run_D c hf e1 I1 (.cons r1 .nil) s0 (.cons rp .nil) hl w
/-- text.replace(c, f), f's object being known -/
theorem r_repl (c : Ctx L k N sc fl W X) {i j : Nat} {x f : Str} {cs : Str} {jc : Nat} {p1 p3 cp ap pos : Pos} (hi : N[i]? = some x) (hj : N[j]? = some f) (hv : visB sc x = true) (hx : dbg x = false) (hf : dbg f = false) (hlf : sc.names.lookup f = some .local) (hline : (ap.endLine == pos.line) = true) :
    PEr X (RawF X f) (.Call (.Attribute (.Name x p1) "replace" ap) [.Constant (.str cs) jc cp, .Name f p3] [] pos) (TEx X.K X.mg L W (.repl i cs j)) := by
  obtain ⟨d1, d2, _⟩ := dbg_ok hx
  obtain ⟨f1, f2, _⟩ := dbg_ok hf
  intro pins s σ H Q ⟨cc, t, ⟨m, hm, hmf⟩, t0, t1⟩ I h
  obtain ⟨H0, G0, ρ, G, o, h⟩ := h
  simp only [evE] at h
  split at h
  · rename_i X1 e1
    split at h
    · rename_i Y1 e2
      obtain ⟨d, ed, fin⟩ := h.ofO
      obtain ⟨⟨c1, c2⟩, rfl⟩ := gd_some ed
      obtain ⟨v1, s1, r1⟩ := o.val i _ e1
      obtain ⟨v2, s2, r2⟩ := o.val j _ e2
      cases r1
      cases r2
      -- f's object is the known one
      have hY : Y1 = ⟨#[cc]⟩ := by
        obtain ⟨m', hn', hl'⟩ := I.loc
        obtain ⟨u, ru, lu⟩ := hl' j f _ (by rw [c.hN]; exact hj) s2 (c.vis (by unfold visB; rw [hlf]))
        have hk : X.env.kindOf f = some .local := by
          show X.env.scope.names.lookup f = _
          rw [c.hsc]; exact hlf
        rcases lu with ⟨_, e⟩ | ⟨z, _⟩
        · obtain ⟨o1, es, ep, g1, g2, g3, g4⟩ := hm
          obtain ⟨o2, es2, ep2, k1, k2, k3, k4⟩ := hn'
          rw [g1] at k1
          cases k1
          rw [g2] at k2
          cases k2
          rw [← k4 f, g4 f, hmf] at e
          obtain ⟨t', et⟩ := ru
          rw [et] at e
          cases e
          rfl
        · rw [hk] at z
          rcases z with z | z <;> cases z
      subst hY
      refine PySem.Call_method2 rfl rfl hline (raw_name (by rw [c.hN]; exact hi) (c.vis hv) I s1 (fun v r => ?_) d1 d2)
      obtain ⟨tx, rfl⟩ := r
      refine ⟨"str", _, F.plainAttrs_str, F.slot_str_replace, F.type_str_replace, typeIs_str _ _ _, (fun _ e => nomatch e), Calls.callWith_builtin rfl (Calls.evalArgs_plain (Calls.spliced_cons ?_))⟩
      refine Calls.Constant_str ?_
      refine Calls.spliced_cons ?_
      have hk : X.env.kindOf f = some .local := by
        show X.env.scope.names.lookup f = _
        rw [c.hsc]; exact hlf
      refine wpAny_Name (wpAny_loadName_local (by show X.env.scope.kind = _; rw [c.hsc]; exact c.kind) hk hm hmf ?_) f1
      refine Calls.spliced_nil ?_
      have t2 : s.toks ≠ 0 := Nat.ne_of_gt (Nat.lt_of_le_of_lt (Nat.zero_le t) t1)
      exact PySem.SC.replace t2 t0 (Nat.ne_of_gt t1) c1 (by omega) fun t' kk => ⟨.str _, H, I.tok kk, ⟨t', rfl⟩, fin.here o.same (.str _ (Nat.le_trans (TK.replace_len _ _ _) c2))⟩
    · exact h.elim
  · exact h.elim
theorem r_ts {e : Expr} {x : Ex} (h : PTr X R e (TTx X.K X.mg L W x)) : PTsR X R [e] (TCx X.K X.mg L W (.some x)) := fun pins s σ H Q r I q => by
  obtain ⟨H0, G0, ρ, G, o, q⟩ := q
  simp only [evC] at q
  exact wpAny_tests_one (h pins s σ H Q r I ⟨H0, G0, ρ, G, o, q⟩)
end
end Bg

set_option Elab.async false
set_option linter.all false
set_option maxRecDepth 100000
set_option maxHeartbeats 4000000
/-! The figure that lacks: its def, its calls. -/
namespace Bg
open PySem PySem.Spec PyProof.Rows L2
section
variable {L : Lg} {k : Nat} {N : List Str} {sc : Scope} {fl : Str → Bool} {W : WX} {X : Cx}
theorem come_of {pins : List (Addr × Obj)} {σ : L2.St} {H : Hp} {s : Shared} {z : Str} {t : Tok} {R : It → Hp → Prop} (hz : z.cps.all (· < 128) = true) (I : Inv X pins σ H s) (tk : Tk s) (q : R (Its z) H) : wpAny (model X.prog X.w) X.A (pyIter (.str z t)) (Come X pins σ z R) X.xe s :=
  wpAny_pyIter_ascii hz ⟨s.heap.objs.size, t, H, rfl, I.kept (t' := s.toks) fun b o e => Heap.get?_push_of_some _ e, ⟨_, Heap.get?_push_size _ rfl, rfl, rfl⟩, I.fpOk (Nat.le_refl _) (I.hok.fresh (Nat.le_refl _)), tk, q⟩
theorem it_str {K : PySem.W.Frag} {mg : Str → Option Value} {x : Ex} {σ : L2.St} {H : Hp} {R : It → Hp → Prop} {z : Str} (hl : z.length ≤ 1000000) (he : ∀ ρ, evE L.U L.cl ρ x = .ok (.str z)) (h : TRx K mg L W (.it x) σ H R) : R (Its z) H := by
  obtain ⟨H0, G0, ρ, G, o, h⟩ := h
  simp only [evR, he ρ] at h
  exact h _ H G (Gr.refl o.same) src_str (by unfold sgn; rw [List.length_map, Array.length_toList]; exact hl)
theorem come_con (c : Ctx L k N sc fl W X) {ci : Nat} {cc : Str × D} {z x : Str} {pos : Pos} (h1 : L.P.con ci = some cc) (hx : cc.1 = x) (hz2 : cc.2 = .str z) (hz : z.cps.all (· < 128) = true) (h2 : glB sc x = true) (h3 : dbg x = false)
    {pins : List (Addr × Obj)} {s : Shared} {σ : L2.St} {H : Hp} (tk : Tk s) (I : Inv X pins σ H s) (R : It → Hp → Prop) (h : TRx X.K X.mg L W (.it (.con ci)) σ H R) :
    wpAny (model X.prog X.w) X.A (eval (.Name x pos) X.env) (fun v s1 => wpAny (model X.prog X.w) X.A (pyIter v) (Come X pins σ z R) X.xe s1) X.xe s := by
  obtain ⟨d1, d2, _⟩ := dbg_ok h3
  obtain ⟨v, u, e1, e2, e3⟩ := c.con ci cc h1
  rw [hz2] at e3
  cases e3 with
  | str _ hl =>
    obtain ⟨t, rfl⟩ := e2
    rw [hx] at e1
    refine ld_glob I (c.gl h2) e1 (come_of hz I tk (it_str hl (fun ρ => ?_) h)) d1
    simp only [evE, c.subC _ _ h1, hz2]
/-- [f for f in FIGURES if test] where an object has been made -/
theorem r_lc (c : Ctx L k N sc fl W X) {ci i : Nat} {cc : Str × D} {z x f : Str} {pf pg px : Pos} {tst : Expr} {scope : Scope} {pos : Pos} {tx : Ex} (h1 : L.P.con ci = some cc) (hx : cc.1 = x) (hz2 : cc.2 = .str z) (hz : z.cps.all (· < 128) = true) (h2 : glB sc x = true) (h3 : dbg x = false)
    (hfi : N[i]? = some f) (hf : dbg f = false) (hlf : scope.names.lookup f = some .local) (ok : blkC N sc scope [(f, i)] = true) (hk : scope.kind = .function)
    (ht : ∀ Y, Ctx L k N (relS scope sc) (blkFl scope) WF Y → PTsR Y (RawF Y f) [tst] (TCx Y.K Y.mg L WF (.some tx))) :
    PEr X Tk (.ListComp (.Name f pf) [⟨.Name f pg, .Name x px, [tst], 0⟩] scope pos) (TEx X.K X.mg L W (.lc (.one i) (.it (.con ci)) (.some tx) (.var i))) := by
  intro pins s σ H Q tk I h
  rw [eval_ListComp]
  have ok' : BlkOk X.N X.env.scope scope [(f, i)] := by rw [c.hN, c.hsc]; exact blkOk_by ok
  have hv : visB (relS scope sc) f = true := by
    unfold visB
    rw [show (relS scope sc).names.lookup f = some .local from lookup_relS_keep (by decide) hlf]
  refine rl_core (wi := TRx X.K X.mg L W (.it (.con ci))) (tt := TCx X.K X.mg L WF (.some tx)) (te := TEx X.K X.mg L WF (.var i)) (z := z) c.calm (by rw [c.hN]; exact c.nd) (by rw [c.hN]; exact hfi) hlf I ok' (fun R hR => come_con c h1 hx hz2 hz h2 h3 tk I R hR)
    (fun s H C cl fp => ht _ (c.blk s H C cl fp hk)) (fun s H C cl fp => s_var (c.blk s H C cl fp hk) hfi hv hf) (fun _ => rfl) (lc_imp rfl (TEx.toF (fun ρ d e => lc_list e) h)) fun D C s' m H' I' q hn g => ⟨m, hn, fun h'' sb => ?_⟩
  obtain ⟨f0, f1, f2, f3, f4, f5⟩ := g
  exact ⟨.ref D, H', I'.turned (t' := s'.toks) (fun b o hb e => (sb.2 b hb).trans e) f0 f1 f3 f4 f5, rfl, q⟩
/-! ### calls of such a def -/
theorem run_T (c : Ctx L k N sc fl W X) {f : Nat} {fd : Fd} {st : Stmt} (hf : (f, fd, st) ∈ L.P.tw) {pins : List (Addr × Obj)} {s : Shared} {σ : L2.St} {H G : Hp} {a : Addr} {v : V} {u : Value} {d : D} {Q : VK} (ha : X.mg fd.name = some (.ref a))
    (tk : Tk s) (I : Inv X pins σ H s) (r : RelV v u) (s0 : Same G H) (rp : Rp X.K X.mg G v d) (h : Wn X.K X.mg L W σ H G true (L.cl f [d]) Q) : wpAny (model X.prog X.w) X.A (call (.ref a) [u]) (EP X pins σ Q) X.xe s := by
  obtain ⟨a', data, e1, _, bd, hp, F⟩ := c.fnT f fd st hf
  rw [ha] at e1
  cases e1
  have rv : Vals [v] [u] := .cons r .nil
  have sp : spD X.K X.mg L fd.par f [v] H Q (WE W σ) := by
    refine ⟨by rw [hp]; rfl, G, [d], s0, .cons rp .nil, ?_⟩
    cases e : L.cl f [d] with
    | ok d => rw [e] at h; exact h.fin
    | ex c => rw [e] at h; exact h
    | no => rw [e] at h; exact h
  have hl : [u].length = (fd.N.take fd.par).length := by rw [← rv.length]; exact F.len _ _ _ _ sp
  have b := bd s [u] I.kIn (by rw [List.append_nil]; exact hl)
  rw [List.append_nil] at b
  refine wpAny_call (codeAny_mono (F.run X.A X.stack s H ⟨[u], []⟩ [u] [v] Q (WE W σ) tk c.room I.env0 b rv sp) fun r s' hq => ?_)
  cases r with
  | error e => exact passAt c.takes σ pins H s e s' I hq
  | ok fl =>
    cases fl with
    | ret u => exact I.after hq
    | next => exact False.elim hq
    | brk => exact False.elim hq
    | cont => exact False.elim hq
theorem s_lackc (c : Ctx L k N sc fl W X) {f : Nat} {fd : Fd} {st : Stmt} (hf : (f, fd, st) ∈ L.P.tw) {x cs : Str} {p cp pos : Pos} {jc : Nat} (hx : fd.name = x) (hg : glB sc x = true) (hd : dbg x = false) (hl : cs.length ≤ 1000000) :
    PE X (.Call (.Name x p) [.Constant (.str cs) jc cp] [] pos) (TEx X.K X.mg L W (.lackc f cs)) := by
  obtain ⟨d1, d2, _⟩ := dbg_ok hd
  obtain ⟨a, data, e1, kp, bd, hp, F⟩ := c.fnT f fd st hf
  have e1' := e1
  rw [hx] at e1'
  refine ⟨fun pins s σ H Q I h => ?_⟩
  refine wpAny_Call_Name_kw (ld_glob I (c.gl hg) e1' ?_ d1)
  obtain ⟨H0, G0, ρ, G, o, h⟩ := h
  simp only [evE] at h
  refine PySem.W.callWith_K (h₀ := X.base) I.ok.mod.kin kp ?_ rfl rfl
  show wpAny _ _ (spliced ((false, eval (.Constant (.str cs) jc cp) X.env) :: backTo pos (starEach [] X.env))) _ _ s
  refine Calls.spliced_cons ?_
  refine Calls.Constant_str ?_
  refine Calls.spliced_nil ⟨(I.tok (s.toks + 1)).kIn, ?_⟩
  exact run_T (v := .str cs) c hf e1 (show 1 ≤ s.toks + 1 by omega) (I.tok (s.toks + 1)) ⟨_, rfl⟩ o.same (.str cs hl) h
theorem s_lack (c : Ctx L k N sc fl W X) {f : Nat} {fd : Fd} {st : Stmt} (hf : (f, fd, st) ∈ L.P.tw) {x cs : Str} {p cp p1 p2 pos : Pos} {jc : Nat} {el er : Expr} {l r : Ex} (hx : fd.name = x) (hg : glB sc x = true) (hd : dbg x = false) (hl : cs.length ≤ 1000000)
    (sl : l.st = true) (sr : r.st = true) (hel : PE X el (TEx X.K X.mg L W l)) (her : PE X er (TEx X.K X.mg L W r)) :
    PE X (.Call (.Name x p) [.BinOp (.BinOp el .Add (.Constant (.str cs) jc cp) p1) .Add er p2] [] pos) (TEx X.K X.mg L W (.lack f l cs r)) := by
  obtain ⟨d1, d2, _⟩ := dbg_ok hd
  obtain ⟨a, data, e1, kp, bd, hp, F⟩ := c.fnT f fd st hf
  have e1' := e1
  rw [hx] at e1'
  refine ⟨fun pins s σ H Q I h => ?_⟩
  refine wpAny_Call_Name_kw (ld_glob I (c.gl hg) e1' ?_ d1)
  obtain ⟨H0, G0, ρ, G, o, h⟩ := h
  simp only [evE] at h
  refine PySem.W.callWith_K (h₀ := X.base) I.ok.mod.kin kp ?_ rfl rfl
  refine Calls.spliced_cons (wpAny_BinOp (wpAny_BinOp ?_))
  refine thn (hel.run pins s σ H _ I (ev1 (Q' := fun v H1 => ∃ G1 d, Ok X.K X.mg H0 G0 ρ σ H1 G1 ∧ Rs X.K X.mg G1 H1 v d ∧ Wn X.K X.mg L W σ H1 G1 true ((Res.ofO (bAdd d (.str cs))).bind fun y => (evE L.U L.cl ρ r).bind fun z => (Res.ofO (bAdd y z)).bind fun d => L.cl f [d]) Q) o h
    fun d v H1 G1 g1 o1 r1 h1 => ⟨G1, d, o1, r1.rs, h1⟩)) fun v s1 ⟨v1, H1, I1, r1, G1, dl, o1, rs1, h1⟩ => ?_
  refine Calls.Constant_str ?_
  cases e2 : bAdd dl (.str cs) with
  | none => rw [e2] at h1; exact h1.elim
  | some dy =>
    rw [e2] at h1
    simp only [Res.ofO_some, Res.bind_ok] at h1
    have I1' := I1.tok (s1.toks + 1)
    refine thnM (op_bAdd pins _ σ H1 v1 (.str cs) v _ (fun w H2 => ∃ G2, Gr H1 G1 H2 G2 ∧ Rp X.K X.mg G2 w dy) I1' r1 ⟨_, rfl⟩ ⟨G1, dl, .str cs, dy, o1.same, rs1, .inl (.str cs hl), e2, fun w H2 G2 g rp => ⟨G2, g, rp⟩⟩) fun u2 s2 t2 ⟨w2, H2, I2, r2, G2, g2, rp2⟩ => ?_
    have tk2 : Tk s2 := Nat.le_trans (show 1 ≤ s1.toks + 1 by omega) t2
    have h2 := h1.grow g2
    refine thnM (her.run pins s2 σ H2 _ I2 (ev1 (Q' := fun v H3 => ∃ G3 d, Gr H2 G2 H3 G3 ∧ Rs X.K X.mg G3 H3 v d ∧ Wn X.K X.mg L W σ H3 G3 true ((Res.ofO (bAdd dy d)).bind fun d => L.cl f [d]) Q) (o1.grow g2) h2
      fun d v H3 G3 g3 o3 r3 h3 => ⟨G3, d, g3, r3.rs, h3⟩)) fun u3 s3 t3 ⟨w3, H3, I3, r3, G3, dz, g3, rs3, h3⟩ => ?_
    cases e3 : bAdd dy dz with
    | none => rw [e3] at h3; exact h3.elim
    | some dd =>
      rw [e3] at h3
      simp only [Res.ofO_some, Res.bind_ok] at h3
      refine thnM (op_bAdd pins s3 σ H3 w2 w3 u2 u3 (fun w H4 => ∃ G4, Gr H3 G3 H4 G4 ∧ Rp X.K X.mg G4 w dd) I3 r2 r3 ⟨G3, dy, dz, dd, g3.s, .inl (Rp.mono g3.g _ _ rp2), rs3, e3, fun w H4 G4 g rp => ⟨G4, g, rp⟩⟩) fun u4 s4 t4 ⟨w4, H4, I4, r4, G4, g4, rp4⟩ => ?_
      refine Calls.spliced_nil ⟨I4.kIn, ?_⟩
      exact run_T c hf e1 (Nat.le_trans tk2 (Nat.le_trans t3 t4)) I4 r4 g4.s rp4 (h3.grow g4)
end
end Bg

set_option Elab.async false
set_option linter.all false
set_option maxRecDepth 100000
set_option maxHeartbeats 4000000
/-! The check of expressions is sound. -/
namespace Bg
open PySem PySem.Spec L2

theorem nb {b : Bool} (h : (!b) = true) : b = false := by cases b <;> simp_all
section
variable {L : Lg} {k : Nat} {N : List Str}
mutual
theorem ckE_ok : ∀ (x : Ex) {sc : Scope} {fl : Str → Bool} {W : WX} {X : Cx} {e : Expr}, Ctx L k N sc fl W X → ckE L.P N sc fl x e = true → OkE L X W x e
  | .var i, sc, fl, W, X, e, c, h => by
    cases e <;> simp only [ckE, Bool.and_eq_true, reduceCtorEq] at h
    exact okE_of (s_var c (nmB_ok h.1.1) h.1.2 (nb h.2)) rfl fun _ => rfl
  | .pk i, sc, fl, W, X, e, c, h => by
    cases e <;> simp only [ckE, Bool.and_eq_true, reduceCtorEq] at h
    exact okE_of (s_pk c (nmB_ok h.1.1) h.1.2 (nb h.2)) rfl fun _ => rfl
  | .con i, sc, fl, W, X, e, c, h => by
    cases e <;> simp only [ckE, Bool.and_eq_true, reduceCtorEq] at h
    obtain ⟨cc, h1, h2⟩ := cnB_ok h.1.1
    exact okE_of (s_con c h1 h2 h.1.2 (nb h.2)) rfl fun _ => rfl
  | .fn i, sc, fl, W, X, e, c, h => by
    cases e <;> simp only [ckE, Bool.and_eq_true, reduceCtorEq] at h
    obtain ⟨cc, h1, h2, _⟩ := fnB_ok h.1.1
    exact okE_of (s_fn c h1 h2 h.1.2 (nb h.2)) rfl fun _ => rfl
  | .ty j, sc, fl, W, X, e, c, h => by
    cases e <;> simp only [ckE, Bool.and_eq_true, reduceCtorEq, decide_eq_true_eq] at h
    refine okE_of (s_ty c h.1.1.1 h.1.1.2 ?_ h.1.2 (nb h.2)) rfl fun _ => rfl
    rw [h.1.1.2]
    rcases h.1.1.1 with rfl | rfl | rfl | rfl | rfl <;> decide +kernel
  | .int i, sc, fl, W, X, e, c, h => by
    cases e <;> simp only [ckE, reduceCtorEq] at h
    rename_i v _ _
    cases v <;> simp only [reduceCtorEq, decide_eq_true_eq] at h
    subst h
    exact okE_of (s_cst pe_int rfl (fun ρ => by simp only [evE]) fun G => .int _) rfl fun _ => rfl
  | .str i, sc, fl, W, X, e, c, h => by
    cases e <;> simp only [ckE, reduceCtorEq] at h
    rename_i v _ _
    cases v <;> simp only [reduceCtorEq, decide_eq_true_eq, Bool.and_eq_true] at h
    obtain ⟨rfl, h⟩ := h
    exact okE_of (s_cst pe_str rfl (fun ρ => by simp only [evE]) fun G => .str _ h) rfl fun _ => rfl
  | .bl i, sc, fl, W, X, e, c, h => by
    cases e <;> simp only [ckE, reduceCtorEq] at h
    rename_i v _ _
    cases v <;> simp only [reduceCtorEq, decide_eq_true_eq] at h
    subst h
    exact okE_of (s_cst pe_bl rfl (fun ρ => by simp only [evE]) fun G => .bl _) rfl fun _ => rfl
  | .non, sc, fl, W, X, e, c, h => by
    cases e <;> simp only [ckE, reduceCtorEq] at h
    rename_i v _ _
    cases v <;> simp only [reduceCtorEq] at h
    exact okE_of (s_cst pe_non rfl (fun ρ => by simp only [evE]) fun G => .non) rfl fun _ => rfl
  | .tup xs, sc, fl, W, X, e, c, h => by
    cases e <;> simp only [ckE, reduceCtorEq, Bool.and_eq_true, decide_eq_true_eq] at h
    exact okE_of (s_tup (ckA_ok xs c h.1.1) h.1.2 h.2) rfl fun _ => rfl
  | .lst xs, sc, fl, W, X, e, c, h => by
    cases e <;> simp only [ckE, reduceCtorEq, Bool.and_eq_true, decide_eq_true_eq] at h
    exact okE_of (s_lst (ckA_ok xs c h.1.1) h.1.2 h.2) rfl fun _ => rfl
  | .bin bo x y, sc, fl, W, X, e, c, h => by
    cases e <;> simp only [ckE, reduceCtorEq, Bool.and_eq_true, decide_eq_true_eq] at h
    obtain ⟨⟨rfl, h1⟩, h2⟩ := h
    exact okE_of (s_bin (bOp_ok bo) (ckE_ok x c h1).1 (ckE_ok y c h2).1) rfl fun _ => rfl
  | .neg x, sc, fl, W, X, e, c, h => by
    cases e <;> simp only [ckE, reduceCtorEq] at h
    rename_i op a pos
    cases op <;> simp only [reduceCtorEq] at h
    exact okE_of (s_neg (ckE_ok x c h).1) rfl fun _ => rfl
  | .not x, sc, fl, W, X, e, c, h => by
    cases e <;> simp only [ckE, reduceCtorEq] at h
    rename_i op a pos
    cases op <;> simp only [reduceCtorEq, Bool.and_eq_true] at h
    obtain ⟨h1, h2⟩ := h
    have q := ckE_ok x c h1
    have r := s_not (pos := pos) q.1 (q.2.1 (nb h2))
    exact ⟨r.1, fun _ => r.2, fun z => by cases z⟩
  | .and x y, sc, fl, W, X, e, c, h => by
    cases e <;> simp only [ckE, reduceCtorEq] at h
    rename_i op vs pos
    cases op <;> try (cases h; done)
    match vs, h with
    | a :: b :: r, h =>
      simp only [Bool.and_eq_true] at h
      obtain ⟨⟨⟨⟨⟨h1, h2⟩, h3⟩, h4⟩, h5⟩, h6⟩ := h
      have q := ckE_ok x c h1
      have q' := ckE_ok y c h4
      have r := s_and q.1 (q.2.1 (nb h2)) q'.1 (q'.2.2 h5) h3 h6
      exact ⟨r.1, fun _ => r.2.pt, fun _ => r.2⟩
    | [], h => cases h
    | [_], h => cases h
  | .or x y, sc, fl, W, X, e, c, h => by
    cases e <;> simp only [ckE, reduceCtorEq] at h
    rename_i op vs pos
    cases op <;> try (cases h; done)
    match vs, h with
    | a :: b :: r, h =>
      simp only [Bool.and_eq_true] at h
      obtain ⟨⟨⟨⟨⟨h1, h2⟩, h3⟩, h4⟩, h5⟩, h6⟩ := h
      have q := ckE_ok x c h1
      have q' := ckE_ok y c h4
      have r := s_or q.1 (q.2.1 (nb h2)) q'.1 (q'.2.2 h5) h3 h6
      exact ⟨r.1, fun _ => r.2.pt, fun _ => r.2⟩
    | [], h => cases h
    | [_], h => cases h
  | .one x, sc, fl, W, X, e, c, h => by
    cases e <;> simp only [ckE, reduceCtorEq] at h
    rename_i op vs pos
    match vs, h with
    | [a], h =>
      simp only [Bool.and_eq_true] at h
      have q := ckE_ok x c h.1.1
      have r := s_one (op := op) (pos := pos) q.1 (q.2.1 (nb h.1.2)) h.2
      exact ⟨r.1, fun _ => r.2.pt, fun _ => r.2⟩
    | [], h => cases h
    | _ :: _ :: _, h => cases h
  | .cmp bo x y, sc, fl, W, X, e, c, h => by
    cases e <;> simp only [ckE, reduceCtorEq] at h
    rename_i a ops bs pos
    match ops, bs, h with
    | [op], [b], h =>
      simp only [Bool.and_eq_true, decide_eq_true_eq] at h
      obtain ⟨⟨⟨rfl, h1⟩, h2⟩, h3⟩ := h
      have r := s_cmp (pos := pos) (cOp_ok c.units bo) (notSet_in h1) (ckE_ok x c h2).1 (ckE_ok y c h3).1
      exact ⟨r.1, fun _ => r.2, fun z => by cases z⟩
    | [], _, h => cases h
    | _ :: _ :: _, _, h => cases h
    | [_], [], h => cases h
    | [_], _ :: _ :: _, h => cases h
  | .chn bo bo' x y z, sc, fl, W, X, e, c, h => by
    cases e <;> simp only [ckE, reduceCtorEq] at h
    rename_i a ops bs pos
    match ops, bs, h with
    | [op, op'], [b, d], h =>
      simp only [Bool.and_eq_true, decide_eq_true_eq] at h
      obtain ⟨⟨⟨⟨⟨rfl, rfl⟩, h1⟩, h2⟩, h3⟩, h4⟩ := h
      have r := s_chn (pos := pos) (cOp_ok c.units bo) (cOp_ok c.units bo') (by show behindInMarks _ d = false; exact notSet_in h1) (ckE_ok x c h2).1 (ckE_ok y c h3).1 (ckE_ok z c h4).1
      exact ⟨r.1, fun _ => r.2, fun z => by cases z⟩
    | [], _, h => cases h
    | [_], _, h => cases h
    | _ :: _ :: _ :: _, _, h => cases h
    | [_, _], [], h => cases h
    | [_, _], [_], h => cases h
    | [_, _], _ :: _ :: _ :: _, h => cases h
  | .ite z x y, sc, fl, W, X, e, c, h => by
    cases e <;> simp only [ckE, reduceCtorEq, Bool.and_eq_true] at h
    obtain ⟨⟨⟨⟨⟨h1, h2⟩, h3⟩, h4⟩, h5⟩, h6⟩ := h
    exact ⟨s_ite ((ckE_ok z c h1).2.1 (nb h2)) (ckE_ok x c h3).1 (ckE_ok y c h4).1 h5 h6, (fun z => by (cases z)), (fun z => by (cases z))⟩
  | .sub x y, sc, fl, W, X, e, c, h => by
    cases e <;> simp only [ckE, reduceCtorEq, Bool.and_eq_true] at h
    exact okE_of (s_sub (plainIx h.1.1) (ckE_ok x c h.1.2).1 (ckE_ok y c h.2).1) rfl fun _ => rfl
  | .sl x l u, sc, fl, W, X, e, c, h => by
    cases e <;> simp only [ckE, reduceCtorEq] at h
    rename_i a b pos
    cases b <;> try (cases h; done)
    rename_i lo hi st p2
    cases st <;> try (cases h; done)
    simp only [Bool.and_eq_true] at h
    exact okE_of (s_sl (ckE_ok x c h.1.1).1 (ckO_ok l c h.1.2) (ckO_ok u c h.2)) rfl fun _ => rfl
  | .sls x l u st, sc, fl, W, X, e, c, h => by
    cases e <;> simp only [ckE, reduceCtorEq] at h
    rename_i a b pos
    cases b <;> try (cases h; done)
    rename_i lo hi st p2
    cases st <;> try (cases h; done)
    simp only [Bool.and_eq_true] at h
    exact okE_of (s_sls (ckE_ok x c h.1.1.1).1 (ckO_ok l c h.1.1.2) (ckO_ok u c h.1.2) h.2) rfl fun _ => rfl
  | .call f xs, sc, fl, W, X, e, c, h => by
    cases e <;> simp only [ckE, reduceCtorEq] at h
    rename_i fn es kw pos
    cases fn <;> try (cases h; done)
    cases kw <;> try (cases h; done)
    simp only [Bool.and_eq_true] at h
    obtain ⟨⟨⟨⟨⟨h1, h2⟩, h3⟩, h4⟩, h5⟩, h6⟩ := h
    obtain ⟨fd, q1, q2, q3⟩ := fnB_ok h1
    exact okE_of (s_call c q1 q2 h2 (nb h3) h4 (q3 _ rfl) h5 (ckA_len h6).2.2 (ckA_ok xs c h6)) rfl fun _ => rfl
  | .callv i js xs, sc, fl, W, X, e, c, h => by
    simp only [ckE] at h
    split at h
    · simp only [Bool.and_eq_true] at h
      obtain ⟨⟨⟨⟨⟨⟨h1, h2⟩, h3⟩, h4⟩, h5⟩, h6⟩, h7⟩ := h
      refine okE_of (s_callv c (nmB_ok h1) h2 (nb h3) (fun j hj => ?_) h5 h6 (ckA_ok xs c h7)) rfl fun _ => rfl
      have q := List.all_eq_true.mp h4 j hj
      split at q
      · rename_i fd hfd
        exact ⟨fd, hfd, of_decide_eq_true q⟩
      · cases q
    · cases h
  | .lrng xs, sc, fl, W, X, e, c, h => by
    simp only [ckE] at h
    split at h
    · rename_i x px y py es p2 p3
      simp only [Bool.and_eq_true, Bool.or_eq_true, decide_eq_true_eq] at h
      obtain ⟨⟨⟨⟨⟨rfl, h2⟩, rfl⟩, h4⟩, h5⟩, h6⟩ := h
      have hl := ckA_len h5
      rcases h6 with h6 | h6
      · match es, xs, h6, h5, hl with
        | [a], .cons x .nil, _, h5, _ =>
          simp only [ckA, Bool.and_eq_true] at h5
          exact okE_of (s_lrng1 c h2 h4 h5.1.1 (ckE_ok x c h5.1.2).1) rfl fun _ => rfl
        | [a], .cons x (.cons y z), _, h5, _ => simp [ckA] at h5
        | [a], .nil, _, h5, _ => simp [ckA] at h5
      · match es, h6, h5, hl with
        | [a, b, d], _, h5, hl =>
          have hn := hl.2.1
          simp only [List.all_cons, List.all_nil, Bool.and_true, Bool.and_eq_true] at hn
          exact okE_of (s_lrng3 c h2 h4 hn.1 hn.2.1 hn.2.2 hl.1.symm (ckA_ok xs c h5)) rfl fun _ => rfl
    · cases h
  | .repl _ _ _, sc, fl, W, X, e, c, h => by simp [ckE] at h
  | .lack f l cs r, sc, fl, W, X, e, c, h => by
    simp only [ckE] at h
    split at h
    · simp only [Bool.and_eq_true, decide_eq_true_eq] at h
      obtain ⟨⟨⟨⟨⟨⟨⟨⟨h1, h2⟩, h3⟩, rfl⟩, h5⟩, h6⟩, h7⟩, h8⟩, h9⟩ := h
      obtain ⟨fd, st, q1, q2⟩ := twB_ok h1
      exact okE_of (s_lack c q1 q2 h2 (nb h3) h5 h6 h7 (ckE_ok l c h8).1 (ckE_ok r c h9).1) rfl fun _ => rfl
    · cases h
  | .lackc f cs, sc, fl, W, X, e, c, h => by
    simp only [ckE] at h
    split at h
    · simp only [Bool.and_eq_true, decide_eq_true_eq] at h
      obtain ⟨⟨⟨⟨h1, h2⟩, h3⟩, rfl⟩, h5⟩ := h
      obtain ⟨fd, st, q1, q2⟩ := twB_ok h1
      exact okE_of (s_lackc c q1 q2 h2 (nb h3) h5) rfl fun _ => rfl
    · cases h
  | .getd i xs, sc, fl, W, X, e, c, h => by
    simp only [ckE] at h
    split at h
    · simp only [Bool.and_eq_true, decide_eq_true_eq] at h
      obtain ⟨⟨⟨⟨⟨h1, h2⟩, h3⟩, h4⟩, h5⟩, h6⟩ := h
      exact okE_of (s_getd c (nmB_ok h1) h2 (nb h3) (ckA_ok xs c h6) h4 h5) rfl fun _ => rfl
    · cases h
  | .inr x y, sc, fl, W, X, e, c, h => by
    simp only [ckE] at h
    split at h
    · simp only [Bool.and_eq_true, decide_eq_true_eq] at h
      obtain ⟨⟨⟨⟨rfl, h2⟩, h3⟩, h4⟩, h5⟩ := h
      exact ⟨(s_inr c h2 h3 (ckE_ok x c h4).1 (ckE_ok y c h5).1).1, fun _ => (s_inr c h2 h3 (ckE_ok x c h4).1 (ckE_ok y c h5).1).2, fun z => by cases z⟩
    · cases h
  | .bc b xs, sc, fl, W, X, e, c, h => by
    cases e <;> simp only [ckE, reduceCtorEq] at h
    rename_i fn es kw pos
    cases fn <;> try (cases h; done)
    cases kw <;> try (cases h; done)
    simp only [Bool.and_eq_true, decide_eq_true_eq] at h
    obtain ⟨⟨⟨⟨rfl, h2⟩, h3⟩, h4⟩, h5⟩ := h
    exact okE_of (s_bc h3 (fun z => by rw [z] at h4; cases h4) (bn_ok c b) (c.gl h2) (c.blt _ (bn_mem b)) (bn_dbg b) (ckA_ok xs c h5)) rfl fun _ => rfl
  | .mt m o xs, sc, fl, W, X, e, c, h => by
    cases e <;> simp only [ckE, reduceCtorEq] at h
    rename_i fn es kw cpos
    cases fn <;> try (cases h; done)
    rename_i a nm apos
    cases kw <;> try (cases h; done)
    rw [Bool.and_eq_true] at h
    obtain ⟨h0, h7⟩ := h
    simp only [Bool.and_eq_true, decide_eq_true_eq] at h0
    obtain ⟨⟨⟨⟨⟨rfl, h2⟩, h3⟩, h4⟩, h5⟩, h6⟩ := h0
    by_cases hm : m = .indexT
    · subst hm
      cases o <;> simp only [reduceCtorEq] at h7
      cases a <;> simp only [reduceCtorEq, Bool.and_eq_true, decide_eq_true_eq] at h7
      obtain ⟨⟨⟨q1, q2⟩, q3⟩, q4⟩ := h7
      obtain ⟨cc, r1, r2⟩ := cnB_ok q1
      match es, q4, h4, h6 with
      | [e], _, h4, h6 => exact okE_of (s_idxT c r1 r2 q2 (nb q3) (by simpa using h4) h2 (ckA_ok xs c h6)) rfl fun _ => rfl
    · have h7' : ckE L.P N sc fl o a = true := by
        cases m <;> first | exact h7 | exact absurd rfl hm
      exact okE_of (s_meth c hm (ckE_ok o c h7').1 h3 h4 h5 h2 (ckA_len h6).2.2 (ckA_ok xs c h6)) rfl fun _ => rfl
  | .lc t s oc x, sc, fl, W, X, e, c, h => by
    simp only [ckE] at h
    split at h
    · simp only [Bool.and_eq_true, decide_eq_true_eq] at h
      obtain ⟨⟨⟨⟨⟨⟨⟨h1, h2⟩, h3⟩, h4⟩, h5⟩, h6⟩, h7⟩, h8⟩ := h
      refine okE_of (PE.imp (s_lcF c h1 (ckR_ok s c h2) h3 h4 (fun Y d => chkT_ok d h6) (fun Y d => ckC_ok oc d h7) (fun Y d => (ckE_ok x d h8).1) (notSet_fold h5)) fun σ H Q q => TEx.toF (fun ρ d e => lc_list e) q) rfl fun _ => rfl
    · cases h
theorem ckA_ok : ∀ (x : Exs) {sc : Scope} {fl : Str → Bool} {W : WX} {X : Cx} {e : List Expr}, Ctx L k N sc fl W X → ckA L.P N sc fl x e = true → PA X e (TAx X.K X.mg L W x)
  | .nil, sc, fl, W, X, e, c, h => by
    cases e <;> simp only [ckA, reduceCtorEq] at h
    exact s_nil
  | .cons x xs, sc, fl, W, X, e, c, h => by
    cases e <;> simp only [ckA, reduceCtorEq, Bool.and_eq_true] at h
    exact s_cons h.1.1 (ckE_ok x c h.1.2).1 (ckA_ok xs c h.2)
theorem ckO_ok : ∀ (x : Ox) {sc : Scope} {fl : Str → Bool} {W : WX} {X : Cx} {e : Option Expr}, Ctx L k N sc fl W X → ckO L.P N sc fl x e = true → PO X e (TOx X.K X.mg L W x)
  | .no, sc, fl, W, X, e, c, h => by
    cases e <;> simp only [ckO, reduceCtorEq] at h
    exact s_ox0
  | .some x, sc, fl, W, X, e, c, h => by
    cases e <;> simp only [ckO, reduceCtorEq] at h
    exact s_ox1 (ckE_ok x c h).1
theorem ckC_ok : ∀ (x : Oc) {sc : Scope} {fl : Str → Bool} {W : WX} {X : Cx} {e : List Expr}, Ctx L k N sc fl W X → ckC L.P N sc fl x e = true → PTs X e (TCx X.K X.mg L W x)
  | .no, sc, fl, W, X, e, c, h => by
    cases e <;> simp only [ckC, reduceCtorEq] at h
    exact s_oc0
  | .some x, sc, fl, W, X, e, c, h => by
    match e, h with
    | [e], h =>
      simp only [ckC, Bool.and_eq_true] at h
      exact s_oc1 ((ckE_ok x c h.1).2.1 (nb h.2))
    | [], h => simp [ckC] at h
    | _ :: _ :: _, h => simp [ckC] at h
theorem ckR_ok : ∀ (x : Sr) {sc : Scope} {fl : Str → Bool} {W : WX} {X : Cx} {tg e : Expr}, Ctx L k N sc fl W X → ckR L.P N sc fl x tg e = true → PI X tg e (TRx X.K X.mg L W x)
  | .it x, sc, fl, W, X, tg, e, c, h => by
    simp only [ckR, Bool.and_eq_true] at h
    exact s_it (ckE_ok x c h.1).1 h.2
  | .rng xs, sc, fl, W, X, tg, e, c, h => by
    cases e <;> simp only [ckR, reduceCtorEq] at h
    rename_i fn es kw pos
    cases fn <;> try (cases h; done)
    cases kw <;> try (cases h; done)
    simp only [Bool.and_eq_true, decide_eq_true_eq, Bool.or_eq_true] at h
    obtain ⟨⟨⟨rfl, h1⟩, h2⟩, h3⟩ := h
    obtain ⟨l1, l2, _⟩ := ckA_len h2
    match es, h2, h3, l1, l2 with
    | [a], h2, _, l1, l2 => exact s_rng1 c h1 (by simpa using l2) l1.symm (ckA_ok xs c h2)
    | [a, b], h2, _, l1, l2 =>
      simp only [List.all_cons, List.all_nil, Bool.and_eq_true] at l2
      exact s_rng2 c h1 l2.1 l2.2.1 l1.symm (ckA_ok xs c h2)
    | [a, b, d], h2, _, l1, l2 =>
      simp only [List.all_cons, List.all_nil, Bool.and_eq_true] at l2
      exact s_rng3 c h1 l2.1 l2.2.1 l2.2.2.1 l1.symm (ckA_ok xs c h2)
    | [], _, h3, _, _ => simp at h3
    | _ :: _ :: _ :: _ :: _, _, h3, _, _ => simp at h3
  | .enum x, sc, fl, W, X, tg, e, c, h => by
    cases e <;> simp only [ckR, reduceCtorEq] at h
    rename_i fn es kw pos
    cases fn <;> try (cases h; done)
    match es, kw, h with
    | [a], [], h =>
      simp only [Bool.and_eq_true, decide_eq_true_eq] at h
      obtain ⟨⟨⟨⟨⟨rfl, h1⟩, h2⟩, h3⟩, h4⟩, h5⟩ := h
      cases tg <;> simp only [isTup, reduceCtorEq] at h5
      exact s_enum c h1 h2 h3 (s_cons h2 (ckE_ok x c h4).1 s_nil)
    | [], _, h => cases h
    | _ :: _ :: _, _, h => cases h
    | [_], _ :: _, h => cases h
  | .zip x y, sc, fl, W, X, tg, e, c, h => by
    cases e <;> simp only [ckR, reduceCtorEq] at h
    rename_i fn es kw pos
    cases fn <;> try (cases h; done)
    match es, kw, h with
    | [a, b], [], h =>
      simp only [Bool.and_eq_true, decide_eq_true_eq] at h
      obtain ⟨⟨⟨⟨⟨⟨⟨⟨rfl, h1⟩, h2⟩, h3⟩, h4⟩, h5⟩, h6⟩, h7⟩, h8⟩ := h
      cases tg <;> simp only [isTup, reduceCtorEq] at h8
      exact s_zip c h1 h2 h3 h4 h5 (s_cons h2 (ckE_ok x c h6).1 (s_cons h3 (ckE_ok y c h7).1 s_nil))
    | [], _, h => cases h
    | [_], _, h => cases h
    | _ :: _ :: _ :: _, _, h => cases h
    | [_, _], _ :: _, h => cases h
end
end
end Bg

set_option Elab.async false
set_option linter.all false
set_option maxRecDepth 100000
set_option maxHeartbeats 4000000
/-! The text of the def that tells an error's word. -/
namespace Bg
open PySem PySem.Spec PyProof.Rows L2

def isiB (e : Expr) (x : Str) : Bool := match e with
  | .Call (.Name f _) [.Name k _, .Name y _] [] _ => decide (f = "isinstance") && decide (k = "kept") && decide (y = x)
  | _ => false
def wordB (b : List Stmt) : Bool := match b with
  | [.Assign [.Name a1 _] (.List [i1, i2] _) _, .Assign [.Name a2 _] (.BinOp (.Name a3 _) .Add (.List [i3, i4] _) _) _, .Expr (.Call (.Attribute (.Name a4 _) m1 ap1) [i5] [] cp1) _,
     .If (.BoolOp .Or [.Compare (.Call (.Attribute (.Name a5 _) m2 ap2) [.Constant (.bool true) _ _] [] cp2) [.NotEq] [.Constant (.int 1) _ _] _, .UnaryOp .Not i6 _] _) [.Return (some (.Constant (.str w) _ _)) _] [] _,
     .Return (some (.Subscript (.Tuple [.Constant (.str w1) _ _, .Constant (.str w2) _ _, .Constant (.str w3) _ _, .Constant (.str w4) _ _, .Constant (.str w5) _ _] _ _) (.Call (.Attribute (.Name a6 _) m3 ap3) [.Constant (.bool true) _ _] [] cp3) _)) _] =>
    [a1, a2, a3, a4, a5, a6].all (fun a => decide (a = "kinds")) && decide (m1 = "append") && decide (m2 = "count") && decide (m3 = "index") && (ap1.endLine == cp1.line) && (ap2.endLine == cp2.line) && (ap3.endLine == cp3.line) &&
    decide (w = "wrong") && decide (w1 = "no row") && decide (w2 = "no code") && decide (w3 = "doubtful") && decide (w4 = "closed") && decide (w5 = "no text") &&
    isiB i1 "NoRow" && isiB i2 "NoCode" && isiB i3 "Doubtful" && isiB i4 "Closed" && isiB i5 "NoText" && isiB i6 "ValueError"
  | _ => false
def wordOk (st : Stmt) : Bool := plainW (defArgs st) && scW (defScope st) && wordB (defBody st)
where
  plainW (a : Arguments) : Bool := a.posonlyargs.isEmpty && a.vararg.isNone && a.kwonlyargs.isEmpty && a.kw_defaults.isEmpty && a.kwarg.isNone && a.defaults.isEmpty && decide (a.args.map (·.arg) = (["kept"] : List Str))
  scW (sc : Scope) : Bool := decide (sc.kind = .function) && !sc.isCoroutine && !sc.isGenerator && locB sc "kept" && decide (sc.names.lookup ("kinds" : Str) = some .local) && (sc.names.all fun y => decide (y.2 ≠ .free)) &&
    (["isinstance", "NoRow", "NoCode", "Doubtful", "Closed", "NoText", "ValueError"] : List Str).all fun x => glB sc x
end Bg

set_option Elab.async false
set_option linter.all false
set_option maxRecDepth 100000
set_option maxHeartbeats 4000000
/-! Statements: their readings and rules. -/
namespace Bg
open PySem PySem.Spec L2

section
variable {K : PySem.W.Frag} {mg : Str → Option Value} {H0 G0 H G H1 G1 : Hp} {ρ : List Sl} {σ : L2.St}
theorem Gr.down (g : Gr H0 G0 H G) (g' : Gr H0 G H1 G1) : Gr H0 G0 H1 G1 where
  h := g'.h
  g := g.g.trans g'.g
  f := fun a h1 h2 => g'.f a (g.f a h1 h2) h2
  s := g'.s
theorem Ok.up (o : Ok K mg H0 G0 ρ σ H G) : Ok K mg H0 G ρ σ H G where
  len := o.len
  base := ⟨o.base.h, Same.refl _, fun _ h _ => h, o.base.s⟩
  val := o.val
  own := o.own
  dis := o.dis
  dic := o.dic
  ddis := o.ddis
theorem Ok.down {ρ' : List Sl} {σ' : L2.St} (g : Gr H0 G0 H G) (o : Ok K mg H0 G ρ' σ' H1 G1) : Ok K mg H0 G0 ρ' σ' H1 G1 where
  len := o.len
  base := g.down o.base
  val := o.val
  own := o.own
  dis := o.dis
  dic := o.dic
  ddis := o.ddis
/-- a new list of one's own into a slot -/
theorem Ok.setO (o : Ok K mg H0 G0 ρ σ H G) (i : Nat) {p : Addr} {xs : List V} {ds : List D} (h1 : H p = some (.lst xs)) (h2 : G p = none) (h3 : H0 p = none) (hn : ∀ (j : Nat) es, ρ[j]? = some (Sl.own es) → σ[j]? ≠ some (some (V.ref p))) (hz : ds.length ≤ 1000000) (h4 : RpA K mg G xs ds) :
    Ok K mg H0 G0 (ρ.set i (.own ds)) (σ.set i (some (.ref p))) H G where
  len := by rw [List.length_set, List.length_set, o.len]
  base := o.base
  val := fun j e hj => by
    rcases get_set hj with ⟨rfl, q⟩ | ⟨ne, q⟩
    · cases q
    · rw [List.getElem?_set_ne (fun z => ne z.symm)]
      exact o.val j e q
  own := fun j es hj => by
    rcases get_set hj with ⟨rfl, q⟩ | ⟨ne, q⟩
    · cases q
      have hl : j < σ.length := by
        have := (List.getElem?_eq_some_iff.mp hj).1
        rw [List.length_set] at this
        rw [← o.len]
        exact this
      exact ⟨p, xs, List.getElem?_set_self hl, h1, h2, h3, hz, h4⟩
    · rw [List.getElem?_set_ne (fun z => ne z.symm)]
      exact o.own j es q
  dis := fun j k ds es a q1 q2 q3 q4 => by
    rcases get_set q1 with ⟨rfl, _⟩ | ⟨ne, r⟩
    · rcases get_set q2 with ⟨rfl, _⟩ | ⟨ne2, r2⟩
      · rfl
      · exfalso
        rcases get_set q3 with ⟨_, z⟩ | ⟨z, _⟩
        · cases z
          rw [List.getElem?_set_ne (fun z => ne2 z.symm)] at q4
          exact hn _ _ r2 q4
        · exact z rfl
    · rw [List.getElem?_set_ne (fun z => ne z.symm)] at q3
      rcases get_set q2 with ⟨rfl, _⟩ | ⟨ne2, r2⟩
      · exfalso
        rcases get_set q4 with ⟨_, z⟩ | ⟨z, _⟩
        · cases z
          exact hn _ _ r q3
        · exact z rfl
      · rw [List.getElem?_set_ne (fun z => ne2 z.symm)] at q4
        exact o.dis j k ds es a r r2 q3 q4
  dic := fun j kvs hj => by
    rcases get_set hj with ⟨rfl, q⟩ | ⟨ne, q⟩
    · cases q
    · rw [List.getElem?_set_ne (fun z => ne z.symm)]
      exact o.dic j kvs q
  ddis := fun j k ds es a h1 h2 h3 h4 => by
    rcases get_set h1 with ⟨rfl, q⟩ | ⟨ne, q⟩
    · cases q
    rcases get_set h2 with ⟨rfl, q2⟩ | ⟨ne2, q2⟩
    · cases q2
    rw [List.getElem?_set_ne (fun z => ne z.symm)] at h3
    rw [List.getElem?_set_ne (fun z => ne2 z.symm)] at h4
    exact o.ddis j k ds es a q q2 h3 h4
/-- one's own list, changed -/
theorem Ok.mut (o : Ok K mg H0 G0 ρ σ H G) {i : Nat} {ds es : List D} {p : Addr} {ys : List V} (hi : ρ[i]? = some (Sl.own ds)) (hp : σ[i]? = some (some (.ref p))) (hz : es.length ≤ 1000000) (h4 : RpA K mg G ys es) :
    Ok K mg H0 G0 (ρ.set i (.own es)) σ (upd H p (.lst ys)) G := by
  obtain ⟨a, xs, e1, e2, e3, e4, e5, e6⟩ := o.own i ds hi
  rw [hp] at e1
  cases e1
  have hs : Same G (upd H p (.lst ys)) := fun b u e => by
    rw [upd_ne (ne_of_none e e3)]
    exact o.same b u e
  refine ⟨by rw [List.length_set, o.len], ⟨fun b u e => ?_, o.base.g, o.base.f, hs⟩, fun j e hj => ?_, fun j es' hj => ?_, fun j k ds' es' a q1 q2 q3 q4 => ?_, fun j kvs hj => ?_, fun j k ds' es' a q1 q2 q3 q4 => ?_⟩
  · rw [upd_ne (ne_of_none e e4)]
    exact o.base.h b u e
  · rcases get_set hj with ⟨rfl, q⟩ | ⟨ne, q⟩
    · cases q
    · exact o.val j e q
  · rcases get_set hj with ⟨rfl, q⟩ | ⟨ne, q⟩
    · cases q
      exact ⟨p, ys, hp, upd_same, e3, e4, hz, h4⟩
    · obtain ⟨a, zs, f1, f2, f3, f4, f5, f6⟩ := o.own j es' q
      have hne : a ≠ p := fun z => ne (o.dis j i es' ds p q hi (by rw [f1, z]) hp)
      exact ⟨a, zs, f1, by rw [upd_ne hne]; exact f2, f3, f4, f5, f6⟩
  · have own? : ∀ {m : Nat} {ts : List D}, (ρ.set i (Sl.own es))[m]? = some (Sl.own ts) → ∃ ts', ρ[m]? = some (Sl.own ts') := fun {m ts} q => by
      rcases get_set q with ⟨rfl, _⟩ | ⟨_, q⟩
      · exact ⟨_, hi⟩
      · exact ⟨_, q⟩
    obtain ⟨_, r1⟩ := own? q1
    obtain ⟨_, r2⟩ := own? q2
    exact o.dis j k _ _ a r1 r2 q3 q4
  · rcases get_set hj with ⟨rfl, q⟩ | ⟨ne, q⟩
    · cases q
    · obtain ⟨a, zs, f1, f2, f3, f4, f5, f6⟩ := o.dic j kvs q
      have hne : a ≠ p := fun z => by rw [z, e2] at f2; cases f2
      exact ⟨a, zs, f1, by rw [upd_ne hne]; exact f2, f3, f4, f5, f6⟩
  · rcases get_set q1 with ⟨rfl, z⟩ | ⟨_, r1⟩
    · cases z
    rcases get_set q2 with ⟨rfl, z⟩ | ⟨_, r2⟩
    · cases z
    exact o.ddis j k _ _ a r1 r2 q3 q4
/-- one's own list is never changed again -/
theorem Ok.frz (o : Ok K mg H0 G0 ρ σ H G) {i : Nat} {ds : List D} (hi : ρ[i]? = some (Sl.own ds)) : ∃ G', Ok K mg H0 G0 (ρ.set i (.val (.list ds))) σ H G' := by
  obtain ⟨p, xs, e1, e2, e3, e4, e5, e6⟩ := o.own i ds hi
  have hg : Same G (upd G p (.lst xs)) := same_new e3
  refine ⟨upd G p (.lst xs), by rw [List.length_set, o.len], ⟨o.base.h, o.base.g.trans hg, fun a h1 h2 => ?_, fun a u e => ?_⟩, fun j e hj => ?_, fun j es hj => ?_, fun j k ds' es' a q1 q2 q3 q4 => ?_, fun j kvs hj => ?_, fun j k ds' es' a q1 q2 q3 q4 => ?_⟩
  · rw [upd_ne (fun z : a = p => h2 (by rw [z]; exact e4))]
    exact o.base.f a h1 h2
  · by_cases q : a = p
    · subst q; rw [upd_same] at e; cases e; exact e2
    · rw [upd_ne q] at e; exact o.same a u e
  · rcases get_set hj with ⟨rfl, q⟩ | ⟨ne, q⟩
    · cases q
      exact ⟨.ref p, e1, .lst upd_same e5 (RpA.mono hg _ _ e6)⟩
    · obtain ⟨v, h1, h2⟩ := o.val j e q
      exact ⟨v, h1, Rp.mono hg _ _ h2⟩
  · rcases get_set hj with ⟨rfl, q⟩ | ⟨ne, q⟩
    · cases q
    · obtain ⟨a, zs, f1, f2, f3, f4, f5, f6⟩ := o.own j es q
      have hne : a ≠ p := fun z => ne (o.dis j i es ds p q hi (by rw [f1, z]) e1)
      exact ⟨a, zs, f1, f2, by rw [upd_ne hne]; exact f3, f4, f5, RpA.mono hg _ _ f6⟩
  · rcases get_set q1 with ⟨rfl, z⟩ | ⟨_, r1⟩
    · cases z
    rcases get_set q2 with ⟨rfl, z⟩ | ⟨_, r2⟩
    · cases z
    exact o.dis j k _ _ a r1 r2 q3 q4
  · rcases get_set hj with ⟨rfl, q⟩ | ⟨ne, q⟩
    · cases q
    · obtain ⟨a, zs, f1, f2, f3, f4, f5, f6⟩ := o.dic j kvs q
      have hne : a ≠ p := fun z => by rw [z, e2] at f2; cases f2
      exact ⟨a, zs, f1, f2, by rw [upd_ne hne]; exact f3, f4, f5, RpK.mono hg f6⟩
  · rcases get_set q1 with ⟨rfl, z⟩ | ⟨_, r1⟩
    · cases z
    rcases get_set q2 with ⟨rfl, z⟩ | ⟨_, r2⟩
    · cases z
    exact o.ddis j k _ _ a r1 r2 q3 q4
/-- a new dict of one's own into a slot -/
theorem Ok.setD (o : Ok K mg H0 G0 ρ σ H G) (i : Nat) {p : Addr} {ws : List (List Key × V)} {kvs : List (List Key × D)} (h1 : H p = some (.dT ws)) (h2 : G p = none) (h3 : H0 p = none) (hn : ∀ (j : Nat) es, ρ[j]? = some (Sl.dic es) → σ[j]? ≠ some (some (V.ref p))) (hz : kvs.length ≤ 1000000) (h4 : RpK K mg G ws kvs) :
    Ok K mg H0 G0 (ρ.set i (.dic kvs)) (σ.set i (some (.ref p))) H G where
  len := by rw [List.length_set, List.length_set, o.len]
  base := o.base
  val := fun j e hj => by
    rcases get_set hj with ⟨rfl, q⟩ | ⟨ne, q⟩
    · cases q
    · rw [List.getElem?_set_ne (fun z => ne z.symm)]
      exact o.val j e q
  own := fun j e hj => by
    rcases get_set hj with ⟨rfl, q⟩ | ⟨ne, q⟩
    · cases q
    · rw [List.getElem?_set_ne (fun z => ne z.symm)]
      exact o.own j e q
  dis := fun j k ds es a h1 h2 h3 h4 => by
    rcases get_set h1 with ⟨rfl, q⟩ | ⟨ne, q⟩
    · cases q
    rcases get_set h2 with ⟨rfl, q2⟩ | ⟨ne2, q2⟩
    · cases q2
    rw [List.getElem?_set_ne (fun z => ne z.symm)] at h3
    rw [List.getElem?_set_ne (fun z => ne2 z.symm)] at h4
    exact o.dis j k ds es a q q2 h3 h4
  dic := fun j es hj => by
    rcases get_set hj with ⟨rfl, q⟩ | ⟨ne, q⟩
    · cases q
      have hl : j < σ.length := by
        have := (List.getElem?_eq_some_iff.mp hj).1
        rw [List.length_set] at this
        rw [← o.len]
        exact this
      exact ⟨p, ws, List.getElem?_set_self hl, h1, h2, h3, hz, h4⟩
    · rw [List.getElem?_set_ne (fun z => ne z.symm)]
      exact o.dic j es q
  ddis := fun j k ds es a q1 q2 q3 q4 => by
    rcases get_set q1 with ⟨rfl, _⟩ | ⟨ne, r⟩
    · rcases get_set q2 with ⟨rfl, _⟩ | ⟨ne2, r2⟩
      · rfl
      · exfalso
        rcases get_set q3 with ⟨_, z⟩ | ⟨z, _⟩
        · cases z
          rw [List.getElem?_set_ne (fun z => ne2 z.symm)] at q4
          exact hn _ _ r2 q4
        · exact z rfl
    · rw [List.getElem?_set_ne (fun z => ne z.symm)] at q3
      rcases get_set q2 with ⟨rfl, _⟩ | ⟨ne2, r2⟩
      · exfalso
        rcases get_set q4 with ⟨_, z⟩ | ⟨z, _⟩
        · cases z
          exact hn _ _ r q3
        · exact z rfl
      · rw [List.getElem?_set_ne (fun z => ne2 z.symm)] at q4
        exact o.ddis j k ds es a r r2 q3 q4
/-- one's own dict, changed -/
theorem Ok.mutD (o : Ok K mg H0 G0 ρ σ H G) {i : Nat} {ds es : List (List Key × D)} {p : Addr} {ys : List (List Key × V)} (hi : ρ[i]? = some (Sl.dic ds)) (hp : σ[i]? = some (some (.ref p))) (hz : es.length ≤ 1000000) (h4 : RpK K mg G ys es) :
    Ok K mg H0 G0 (ρ.set i (.dic es)) σ (upd H p (.dT ys)) G := by
  obtain ⟨a, xs, e1, e2, e3, e4, e5, e6⟩ := o.dic i ds hi
  rw [hp] at e1
  cases e1
  have hs : Same G (upd H p (.dT ys)) := fun b u e => by
    rw [upd_ne (ne_of_none e e3)]
    exact o.same b u e
  refine ⟨by rw [List.length_set, o.len], ⟨fun b u e => ?_, o.base.g, o.base.f, hs⟩, fun j e hj => ?_, fun j es' hj => ?_, fun j k ds' es' a q1 q2 q3 q4 => ?_, fun j kvs hj => ?_, fun j k ds' es' a q1 q2 q3 q4 => ?_⟩
  · rw [upd_ne (ne_of_none e e4)]
    exact o.base.h b u e
  · rcases get_set hj with ⟨rfl, q⟩ | ⟨ne, q⟩
    · cases q
    · exact o.val j e q
  · rcases get_set hj with ⟨rfl, q⟩ | ⟨ne, q⟩
    · cases q
    · obtain ⟨a, zs, f1, f2, f3, f4, f5, f6⟩ := o.own j es' q
      have hne : a ≠ p := fun z => by rw [z, e2] at f2; cases f2
      exact ⟨a, zs, f1, by rw [upd_ne hne]; exact f2, f3, f4, f5, f6⟩
  · rcases get_set q1 with ⟨rfl, z⟩ | ⟨_, r1⟩
    · cases z
    rcases get_set q2 with ⟨rfl, z⟩ | ⟨_, r2⟩
    · cases z
    exact o.dis j k _ _ a r1 r2 q3 q4
  · rcases get_set hj with ⟨rfl, q⟩ | ⟨ne, q⟩
    · cases q
      exact ⟨p, ys, hp, upd_same, e3, e4, hz, h4⟩
    · obtain ⟨a, zs, f1, f2, f3, f4, f5, f6⟩ := o.dic j kvs q
      have hne : a ≠ p := fun z => ne (o.ddis j i kvs ds p q hi (by rw [f1, z]) hp)
      exact ⟨a, zs, f1, by rw [upd_ne hne]; exact f2, f3, f4, f5, f6⟩
  · have own? : ∀ {m : Nat} {ts : List (List Key × D)}, (ρ.set i (Sl.dic es))[m]? = some (Sl.dic ts) → ∃ ts', ρ[m]? = some (Sl.dic ts') := fun {m ts} q => by
      rcases get_set q with ⟨rfl, _⟩ | ⟨_, q⟩
      · exact ⟨_, hi⟩
      · exact ⟨_, q⟩
    obtain ⟨_, r1⟩ := own? q1
    obtain ⟨_, r2⟩ := own? q2
    exact o.ddis j k _ _ a r1 r2 q3 q4
theorem Ok.noDic {p : Addr} (o : Ok K mg H0 G0 ρ σ H G) (hp : H p = none) (j : Nat) (es : List (List Key × D)) (h : ρ[j]? = some (Sl.dic es)) : σ[j]? ≠ some (some (V.ref p)) := by
  obtain ⟨a, xs, e1, e2, _⟩ := o.dic j es h
  intro z
  rw [z] at e1
  cases e1
  rw [hp] at e2
  cases e2
end

section
variable (K : PySem.W.Frag) (mg : Str → Option Value) (L : Lg) (W : WX)
def Wt (D : Ends) (H0 G0 : Hp) : Out → Prop
  | .nx ρ => ∀ σ H G, Ok K mg H0 G0 ρ σ H G → D.nx σ H
  | .ret d => ∀ v H G, Gr H0 G0 H G → Rp K mg G v d → D.rt v H
  | .ex c ρ => ∀ σ H G, Ok K mg H0 G0 ρ σ H G → W (.ref (L.ec c)) none σ H
  | .no => False
def TSx (x : Sx) : TS := fun D σ H => ∃ H0 G0 ρ G, Ok K mg H0 G0 ρ σ H G ∧ Wt K mg L W D H0 G0 (evS L.U L.cl ρ x)
def TSs (x : Sxs) : TS := fun D σ H => ∃ H0 G0 ρ G, Ok K mg H0 G0 ρ σ H G ∧ Wt K mg L W D H0 G0 (evSs L.U L.cl ρ x)
end

/-- what statements need besides -/
structure CtS (L : Lg) (k : Nat) (N : List Str) (sc : Scope) (W : WX) (X : Cx) : Prop where
  c : Ctx L k N sc (fun _ => true) W X
  po : PassesOwn (model X.prog X.w) X.A X.env X.xe
  stk : X.stack = X.env :: X.outer
  frm : X.env.frame = some X.env.locals
  exc : ∀ (c : Nat) x, L.P.exc c = some x → X.mg x = some (.ref (L.ec c)) ∧ PySem.W.keepIn X.K (.ref (L.ec c)) = true ∧ PySem.W.excIn X.K (L.ec c) [.type "ValueError", .type "Exception", .type "BaseException", .type "object"] "ValueError.__new__" = true ∧ Raises X (.ref (L.ec c))
  exm : ∀ (c d : Nat) x, L.P.exc d = some x → PySem.W.exmOne X.K (.ref (L.ec c)) (.ref (L.ec d)) = some (subE c d)
  exi : ∀ (c d : Nat) x, L.P.exc d = some x → ExcC X.K (L.ec c) ∧ PySem.W.kitOne X.K (.ref (L.ec c)) (.ref (L.ec d)) = some (subE c d) ∧ PySem.W.kitOne X.K (.ref (L.ec c)) (.type "ValueError") = some true
  wd : ∀ p ∈ L.P.ws, ∃ fa data, wordOk p.2 = true ∧ X.mg p.1 = some (.ref fa) ∧ PySem.W.keepIn X.K (.ref fa) = true ∧ FunD X.K p.1 p.1 (defArgs p.2) (defBody p.2) (defScope p.2) [] [] fa data ∧ ∀ (s : Shared) (u : Value), BindsTo s data ⟨[u], []⟩ [("kept", u)]

section
variable {L : Lg} {k : Nat} {N : List Str} {sc : Scope} {W : WX} {X : Cx}
theorem Wt.up {K : PySem.W.Frag} {mg : Str → Option Value} {D : Ends} {H0 G0 H G : Hp} {o : Out} (g : Gr H0 G0 H G) (h : Wt K mg L W D H0 G0 o) : Wt K mg L W D H0 G o := by
  cases o with
  | nx ρ => exact fun σ H' G' ok => h σ H' G' (ok.down g)
  | ret d => exact fun v H' G' g' r => h v H' G' (g.down g') r
  | ex c ρ => exact fun σ H' G' ok => h σ H' G' (ok.down g)
  | no => exact h
theorem q_nil : PSs X [] (TSs X.K X.mg L W .nil) := by
  refine PSs.imp pss_nil fun D σ H h => ?_
  obtain ⟨H0, G0, ρ, G, o, h⟩ := h
  simp only [evSs] at h
  exact h σ H G o
theorem q_cons {st : Stmt} {r : List Stmt} {x : Sx} {xs : Sxs} (h1 : PS X st (TSx X.K X.mg L W x)) (h2 : PSs X r (TSs X.K X.mg L W xs)) : PSs X (st :: r) (TSs X.K X.mg L W (.cons x xs)) := by
  refine PSs.imp (pss_cons h1 h2) fun D σ H h => ?_
  obtain ⟨H0, G0, ρ, G, o, h⟩ := h
  simp only [evSs] at h
  refine ⟨H0, G0, ρ, G, o, ?_⟩
  cases e : evS L.U L.cl ρ x with
  | nx ρ' =>
    rw [e] at h
    exact fun σ' H' G' o' => ⟨H0, G0, ρ', G', o', h⟩
  | ret d => rw [e] at h; exact h
  | ex c ρ' => rw [e] at h; exact h
  | no => rw [e] at h; exact h
theorem q_frz {r : List Stmt} {i : Nat} {xs : Sxs} (h2 : PSs X r (TSs X.K X.mg L W xs)) : PSs X r (TSs X.K X.mg L W (.cons (.frz i) xs)) := by
  refine PSs.imp h2 fun D σ H h => ?_
  obtain ⟨H0, G0, ρ, G, o, h⟩ := h
  simp only [evSs, evS] at h
  split at h
  · rename_i ds e
    obtain ⟨G', o'⟩ := o.frz e
    exact ⟨H0, G0, _, G', o', h⟩
  · exact h.elim
theorem q_pass {st : Stmt} (h : PS X st tNext) : PS X st (TSx X.K X.mg L W .pass) := by
  refine PS.imp h fun D σ H h => ?_
  obtain ⟨H0, G0, ρ, G, o, h⟩ := h
  simp only [evS] at h
  exact h σ H G o
/-- from an expression to the statement -/
theorem TEx.st {K : PySem.W.Frag} {mg : Str → Option Value} {x : Ex} {Dn : Ends} {σ : L2.St} {H H0 G0 G : Hp} {ρ : List Sl} {f : D → Out} {Q : VK} (o : Ok K mg H0 G0 ρ σ H G) (h : Wt K mg L W Dn H0 G0 (Out.of ρ (evE L.U L.cl ρ x) f))
    (hq : ∀ d v H' G', Ok K mg H0 G0 ρ σ H' G' → Gr H G H' G' → Rx x.st K mg G' H' v d → Wt K mg L W Dn H0 G0 (f d) → Q v H') : TEx K mg L W x σ H Q := by
  refine ⟨H0, G0, ρ, G, o, ?_⟩
  cases e : evE L.U L.cl ρ x with
  | ok d =>
    rw [e] at h
    exact fun v H' G' g r => hq d v H' G' (o.grow g) g r h
  | ex c =>
    rw [e] at h
    exact fun H' G' g => h σ H' G' (o.grow g)
  | no => rw [e] at h; exact h
end
end Bg

set_option Elab.async false
set_option linter.all false
set_option maxRecDepth 100000
set_option maxHeartbeats 4000000
/-! The statements' rules. -/
namespace Bg
open PySem PySem.Spec L2

/-- does the stored name swap with the comprehension's -/
def swB (sc : Scope) (e : Expr) (y : Str) (py : Pos) : Bool := match e with
  | .ListComp _ _ scope pos => decide (sc.names.lookup y = some .local) && (py.line == pos.line) && !(scope.names.any fun (n, k) => n == y && (k == .local || k == .cell))
  | _ => false
def noComp : Expr → Bool
  | .ListComp _ _ _ _ => false
  | .SetComp _ _ _ _ => false
  | .DictComp _ _ _ _ _ => false
  | _ => true
def isTupE : Expr → Bool
  | .Tuple _ _ _ => true
  | _ => false
theorem sw_none {e : Expr} {t : Option Expr} {l : Nat} {env : Env} (h : noComp e = true) : swapsWith e t l env = pure false := by
  cases e <;> first | rfl | cases h
theorem sw_tup {e : Expr} {es : List Expr} {j : Nat} {p : Pos} {l : Nat} {env : Env} : swapsWithSole [.Tuple es j p] e l env = pure false := by
  cases e <;> rfl
theorem sw_sub {e a b : Expr} {p : Pos} {l : Nat} {env : Env} : swapsWithSole [.Subscript a b p] e l env = pure false := by
  cases e <;> rfl
theorem ss_tup {e : Expr} {es : List Expr} {j : Nat} {p : Pos} {env : Env} (h : isTupE e = false) : swappedStores [.Tuple es j p] e env = pure none := by
  cases e <;> first | rfl | cases h
theorem ss_sub {e a b : Expr} {p : Pos} {env : Env} : swappedStores [.Subscript a b p] e env = pure none := by
  cases e <;> rfl
theorem sw_false {elt : Expr} {gs : List Comprehension} {scope : Scope} {pos py : Pos} {y : Str} {l : Nat} {env : Env} (hk : env.scope.kind = .function)
    (h : swB env.scope (.ListComp elt gs scope pos) y py = false) : swapsWith (.ListComp elt gs scope pos) (some (.Name y py)) l env = pure false := by
  have hb : env.blockKind = .function := by unfold Env.blockKind; rw [hk]; rfl
  unfold swapsWith
  have e : (env.blockKind == .function && env.kindOf y == some .local && py.line == pos.line && !(scope.names.any fun (n, k) => n == y && (k == .local || k == .cell))) = false := by
    rw [hb]
    have ky : env.kindOf y = env.scope.names.lookup y := rfl
    rw [ky]
    simp only [swB] at h
    rw [← h]
    by_cases q : env.scope.names.lookup y = some .local
    · rw [q]; rfl
    · have e1 : (env.scope.names.lookup y == some .local) = false := by
        cases z : env.scope.names.lookup y with
        | none => rfl
        | some w => cases w <;> first | rfl | exact absurd z q
      rw [e1, decide_eq_false q]
      rfl
  exact congrArg pure e

section
variable {L : Lg} {k : Nat} {N : List Str} {sc : Scope} {fl : Str → Bool} {W : WX} {X : Cx}
theorem q_ex {e : Expr} {x : Ex} {pos : Pos} (he : PE X e (TEx X.K X.mg L W x)) (hs : noComp e = true) : PS X (.Expr e pos) (TSx X.K X.mg L W (.ex x)) := by
  refine PS.imp (ps_expr he (sw_none hs)) fun D σ H h => ?_
  obtain ⟨H0, G0, ρ, G, o, h⟩ := h
  simp only [evS] at h
  exact TEx.st o h fun d v H' G' o' g r q => q σ H' G' o'
theorem q_ret {e : Expr} {x : Ex} {pos : Pos} (he : PE X e (TEx X.K X.mg L W x)) (hs : x.st = true) : PS X (.Return (some e) pos) (TSx X.K X.mg L W (.ret x)) := by
  refine PS.imp (ps_ret he) fun D σ H h => ?_
  obtain ⟨H0, G0, ρ, G, o, h⟩ := h
  simp only [evS] at h
  refine TEx.st o h fun d v H' G' o' g r q => q v H' G' o'.base ?_
  rw [hs] at r
  exact r
theorem q_retN {pos : Pos} : PS X (.Return none pos) (TSx X.K X.mg L W (.ret .non)) := by
  refine PS.imp ps_retN fun D σ H h => ?_
  obtain ⟨H0, G0, ρ, G, o, h⟩ := h
  simp only [evS, evE, Out.of] at h
  exact h .non H G o.base .non
theorem q_ite {e : Expr} {x : Ex} {a b : List Stmt} {xa xb : Sxs} {pos : Pos} (he : PT X e (TTx X.K X.mg L W x)) (ha : PSs X a (TSs X.K X.mg L W xa)) (hb : PSs X b (TSs X.K X.mg L W xb)) : PS X (.If e a b pos) (TSx X.K X.mg L W (.ite x xa xb)) := by
  refine PS.imp (ps_if he ha hb) fun D σ H h => ?_
  obtain ⟨H0, G0, ρ, G, o, h⟩ := h
  simp only [evS] at h
  refine ⟨H0, G0, ρ, G, o, ?_⟩
  cases e : ((evE L.U L.cl ρ x).bind fun d => Res.ofO (truth d)) with
  | no => rw [e] at h; exact h
  | ex c =>
    rw [e] at h
    exact fun H' G' g => h σ H' G' (o.grow g)
  | ok b =>
    rw [e] at h
    intro H' G' g
    cases b with
    | true => exact ⟨H0, G0, ρ, G', o.grow g, h⟩
    | false => exact ⟨H0, G0, ρ, G', o.grow g, h⟩
theorem q_for (c : CtS L k N sc W X) {tg iter : Expr} {t : Tg} {s : Sr} {body : List Stmt} {xb : Sxs} {pos : Pos} (hi : PI X tg iter (TRx X.K X.mg L W s)) (hg : PG X tg (gT X.K t)) (hb : PSs X body (TSs X.K X.mg L W xb)) (hs : notSet iter = true) :
    PS X (.For tg iter body [] pos) (TSx X.K X.mg L W (.for_ t s xb)) := by
  refine PS.imp (ps_for c.po c.c.calm hi hg hb (notSet_fold hs)) fun D σ H h => ?_
  obtain ⟨H0, G0, ρ, G, o, h⟩ := h
  simp only [evS] at h
  refine ⟨H0, G0, ρ, G, o, ?_⟩
  cases e : evR L.U L.cl ρ s with
  | no => rw [e] at h; exact h
  | ex c =>
    rw [e] at h
    exact fun H' G' g => h σ H' G' (o.grow g)
  | ok items =>
    rw [e] at h
    intro J H1 G1 g1 src hz
    have o1 := o.grow g1
    have h1 := Wt.up o1.base h
    clear h e
    refine ⟨fun i m σ' H' => m = items.length - i ∧ i ≤ items.length ∧ ∃ ρ' G', Ok X.K X.mg H0 G1 ρ' σ' H' G' ∧ Wt X.K X.mg L W D H0 G1 (forGo (fun ρ d => match bindT ρ t d with | some ρ' => evSs L.U L.cl ρ' xb | none => .no) (items.drop i) ρ'), ⟨items.length, by simp, Nat.zero_le _, ρ, G1, o1.up, h1⟩, ?_⟩
    rintro i m σ' H' ⟨rfl, hi, ρ', G', o', w⟩
    have sm : Same G1 H' := o'.base.g.trans o'.same
    by_cases hlt : i < items.length
    · refine .inr ⟨src.go i H' hlt sm, fun σ2 H2 => ∃ ρ3 G3, Ok X.K X.mg H0 G1 ρ3 σ2 H2 G3 ∧ Wt X.K X.mg L W D H0 G1 (forGo (fun ρ d => match bindT ρ t d with | some ρ' => evSs L.U L.cl ρ' xb | none => .no) (items.drop (i + 1)) ρ3), ?_, ?_⟩
      · rintro σ2 H2 ⟨ρ3, G3, o3, w3⟩
        exact ⟨items.length - (i + 1), by omega, rfl, hlt, ρ3, G3, o3, w3⟩
      · intro x H2 y
        obtain ⟨G2, g2, r2⟩ := src.yld i H' x H2 G' items[i] (List.getElem?_eq_getElem hlt) o'.base.g o'.same y
        rw [List.drop_eq_getElem_cons hlt] at w
        simp only [forGo] at w
        cases eb : bindT ρ' t items[i] with
        | none => rw [eb] at w; exact w.elim
        | some ρ2 =>
          rw [eb] at w
          refine bind_ok (o'.grow g2) r2 eb fun σ3 o3 _ => ⟨H0, G1, ρ2, G2, o3, ?_⟩
          simp only at w
          cases es : evSs L.U L.cl ρ2 xb with
          | nx ρ4 =>
            rw [es] at w
            exact fun σ5 H5 G5 o5 => ⟨ρ4, G5, o5, w⟩
          | ret d => rw [es] at w; exact w
          | ex c ρ4 => rw [es] at w; exact w
          | no => rw [es] at w; exact w
    · have ei : i = items.length := by omega
      subst ei
      rw [List.drop_length] at w
      exact .inl ⟨src.stop H' sm, w σ' H' G' o'⟩
theorem q_set (c : Ctx L k N sc fl W X) {e : Expr} {x : Ex} {i : Nat} {y : Str} {py pos : Pos} (hn : chkN N sc fl (.Name y py) i = true) (he : PE X e (TEx X.K X.mg L W x)) (hs : x.st = true) (hw : swapsWith e (some (.Name y py)) pos.line X.env = pure false) :
    PS X (.Assign [.Name y py] e pos) (TSx X.K X.mg L W (.set i x)) := by
  simp only [chkN, Bool.and_eq_true] at hn
  obtain ⟨⟨h1, h2⟩, h3⟩ := hn
  have h1' : N[i]? = some y := by
    split at h1
    · rename_i z e; rw [e, of_decide_eq_true h1]
    · cases h1
  refine PS.imp (ps_set (by rw [c.hN]; exact c.nd) (by rw [c.hN]; exact h1') (c.loc h2) he hw (c.fn y h3)) fun D σ H h => ?_
  obtain ⟨H0, G0, ρ, G, o, h⟩ := h
  simp only [evS] at h
  refine TEx.st o h fun d v H' G' o' g r q => q _ H' G' (o'.set i ?_)
  rw [hs] at r
  exact r
/-- from a new list to the statement -/
theorem TFx.st {K : PySem.W.Frag} {mg : Str → Option Value} {x : Ex} {Dn : Ends} {σ : L2.St} {H H0 G0 G : Hp} {ρ : List Sl} {f : D → Out} {Q : VK} (o : Ok K mg H0 G0 ρ σ H G) (hn : ∀ d, (∀ ds, d ≠ .list ds) → f d = .no) (h : Wt K mg L W Dn H0 G0 (Out.of ρ (evE L.U L.cl ρ x) f))
    (hq : ∀ ds p H' G' xs, Ok K mg H0 G0 ρ σ H' G' → Gr H G H' G' → H p = none → H' p = some (.lst xs) → G' p = none → RpA K mg G' xs ds → ds.length ≤ 1000000 → Wt K mg L W Dn H0 G0 (f (.list ds)) → Q (.ref p) H') : TFx K mg L W x σ H Q := by
  refine ⟨H0, G0, ρ, G, o, ?_⟩
  cases e : evE L.U L.cl ρ x with
  | ok d =>
    rw [e] at h
    cases d with
    | list ds => exact fun p H' G' xs g h1 h2 h3 h4 h5 => hq ds p H' G' xs (o.grow g) g h1 h2 h3 h4 h5 h
    | _ =>
      exfalso
      have h' : Wt K mg L W Dn H0 G0 (f _) := h
      rw [hn _ (fun _ z => by cases z)] at h'
      exact h'
  | ex c =>
    rw [e] at h
    exact fun H' G' g => h σ H' G' (o.grow g)
  | no => rw [e] at h; exact h
theorem Ok.noOwn {K : PySem.W.Frag} {mg : Str → Option Value} {σ : L2.St} {H H0 G0 G : Hp} {ρ : List Sl} {p : Addr} (o : Ok K mg H0 G0 ρ σ H G) (hp : H p = none) (j : Nat) (es : List D) (h : ρ[j]? = some (Sl.own es)) : σ[j]? ≠ some (some (V.ref p)) := by
  obtain ⟨a, xs, e1, e2, _⟩ := o.own j es h
  intro z
  rw [z] at e1
  cases e1
  rw [hp] at e2
  cases e2
theorem q_own (c : Ctx L k N sc fl W X) {e : Expr} {x : Ex} {i : Nat} {y : Str} {py pos : Pos} (hn : chkN N sc fl (.Name y py) i = true) (he : PE X e (TFx X.K X.mg L W x)) (hw : swapsWith e (some (.Name y py)) pos.line X.env = pure false) :
    PS X (.Assign [.Name y py] e pos) (TSx X.K X.mg L W (.own i x)) := by
  simp only [chkN, Bool.and_eq_true] at hn
  obtain ⟨⟨h1, h2⟩, h3⟩ := hn
  have h1' : N[i]? = some y := by
    split at h1
    · rename_i z e; rw [e, of_decide_eq_true h1]
    · cases h1
  refine PS.imp (ps_set (by rw [c.hN]; exact c.nd) (by rw [c.hN]; exact h1') (c.loc h2) he hw (c.fn y h3)) fun D σ H h => ?_
  obtain ⟨H0, G0, ρ, G, o, h⟩ := h
  simp only [evS] at h
  refine TFx.st o (fun d hd => by cases d <;> first | rfl | exact absurd rfl (hd _)) h fun ds p H' G' xs o' g e1 e2 e3 e4 e5 q => ?_
  exact q _ H' G' (o'.setO i e2 e3 (o.base.h.free e1) (fun j es hj => o.noOwn e1 j es hj) e5 e4)
/-- name = [..] where the store swaps -/
theorem lc_asg (c : Ctx L k N sc fl W X) {i : Nat} {y : Str} {py spos : Pos} {elt tg iter : Expr} {ifs : List Expr} {scope : Scope} {pos : Pos} {t : Tg} {s : Sr} {oc : Oc} {e : Ex} (hst : e.st = true) (hi : PI X tg iter (TRx X.K X.mg L W s)) (ok : blkC N sc scope (t.slots.map fun i => (N.getD i "", i)) = true) (hk : scope.kind = .function)
    (hg : ∀ Y, Ctx L k N (relS scope sc) (blkFl scope) WF Y → PG Y tg (gT Y.K t)) (ht : ∀ Y, Ctx L k N (relS scope sc) (blkFl scope) WF Y → PTs Y ifs (TCx Y.K Y.mg L WF oc))
    (he : ∀ Y, Ctx L k N (relS scope sc) (blkFl scope) WF Y → PE Y elt (TEx Y.K Y.mg L WF e)) (hs : ∀ x, foldedSetIterable iter X.env x = pure x) (hy : N[i]? = some y) (hyl : sc.names.lookup y = some .local)
    (hsw : swapsWith (.ListComp elt [⟨tg, iter, ifs, 0⟩] scope pos) (some (.Name y py)) spos.line X.env = pure true) :
    PS X (.Assign [.Name y py] (.ListComp elt [⟨tg, iter, ifs, 0⟩] scope pos) spos) (tAsg (TFx X.K X.mg L W (.lc t s oc e)) (gName i)) := by
  have ok' : BlkOk X.N X.env.scope scope (t.slots.map fun i => (N.getD i "", i)) := by rw [c.hN, c.hsc]; exact blkOk_by ok
  refine PS.imp (ps_setLc (own := t.slots.map fun i => (N.getD i "", i)) (g := gT X.K t) (tt := TCx X.K X.mg L WF oc) (te := TEx X.K X.mg L WF e) c.calm (by rw [c.hN]; exact c.nd) (by rw [c.hN]; exact hy) (by rw [c.hsc]; exact hyl) hsw hi ok'
    (fun s H C cl fp => hg _ (c.blk s H C cl fp hk)) (fun s H C cl fp => ht _ (c.blk s H C cl fp hk)) (fun s H C cl fp => he _ (c.blk s H C cl fp hk)) hs) fun D σ H h => ?_
  have es : (t.slots.map fun i => (N.getD i "", i)).map (·.2) = t.slots := by rw [List.map_map]; exact List.map_id' _
  rw [es]
  exact lc_imp hst h
theorem lcS_own {i : Nat} {st : Stmt} {t : Tg} {s : Sr} {oc : Oc} {e : Ex} (h : PS X st (tAsg (TFx X.K X.mg L W (.lc t s oc e)) (gName i))) : PS X st (TSx X.K X.mg L W (.own i (.lc t s oc e))) := by
  refine PS.imp h fun D σ H h => ?_
  obtain ⟨H0, G0, ρ, G, o, h⟩ := h
  simp only [evS] at h
  refine TFx.st o (fun d hd => by cases d <;> first | rfl | exact absurd rfl (hd _)) h fun ds p H' G' xs o' g e1 e2 e3 e4 e5 q => ?_
  exact q _ H' G' (o'.setO i e2 e3 (o.base.h.free e1) (fun j es hj => o.noOwn e1 j es hj) e5 e4)
theorem lcS_set {i : Nat} {st : Stmt} {t : Tg} {s : Sr} {oc : Oc} {e : Ex} (h : PS X st (tAsg (TFx X.K X.mg L W (.lc t s oc e)) (gName i))) : PS X st (TSx X.K X.mg L W (.set i (.lc t s oc e))) := by
  refine PS.imp h fun D σ H h => ?_
  obtain ⟨H0, G0, ρ, G, o, h⟩ := h
  simp only [evS] at h
  refine TEx.toF (fun ρ d e => lc_list e) (TEx.st o h fun d v H' G' o' g r q => q _ H' G' (o'.set i r))
/-- names = a tuple -/
theorem q_unp (c : Ctx L k N sc fl W X) {e : Expr} {x : Ex} {is : List Nat} {es : List Expr} {j : Nat} {p pos : Pos} (hn : chkNs N sc fl es is = true) (he : PE X e (TEx X.K X.mg L W x)) (hs : x.st = true) (hw : swappedStores [.Tuple es j p] e X.env = pure none) :
    PS X (.Assign [.Tuple es j p] e pos) (TSx X.K X.mg L W (.unp is x)) := by
  have hg : PG X (.Tuple es j p) (gT X.K (.tup is)) := chkT_ok c (t := .tup is) hn
  refine PS.imp (ps_asg he hg sw_tup hw rfl) fun D σ H h => ?_
  obtain ⟨H0, G0, ρ, G, o, h⟩ := h
  simp only [evS] at h
  refine TEx.st o h fun d v H' G' o' g r q => ?_
  rw [hs] at r
  cases eb : bindT ρ (.tup is) d with
  | none => rw [eb] at q; exact q.elim
  | some ρ2 =>
    rw [eb] at q
    exact bind_ok o' r eb fun σ3 o3 _ => q σ3 H' G' o3
end
end Bg

set_option Elab.async false
set_option linter.all false
set_option maxRecDepth 100000
set_option maxHeartbeats 4000000
/-! More rules: one's own lists, parallel stores, while, raise. -/
namespace Bg
open PySem PySem.Spec L2

section
variable {L : Lg} {k : Nat} {N : List Str} {sc : Scope} {fl : Str → Bool} {W : WX} {X : Cx}
/-- the name of one's own list -/
def tPk (i : Nat) : TE := fun σ H Q => ∃ p, σ[i]? = some (some (V.ref p)) ∧ Q (.ref p) H
theorem s_pk0 (c : Ctx L k N sc fl W X) {i : Nat} {x : Str} {pos : Pos} (h1 : N[i]? = some x) (h2 : visB sc x = true) (h3 : dbg x = false) : PE X (.Name x pos) (tPk i) := by
  obtain ⟨d1, d2, _⟩ := dbg_ok h3
  exact PE.imp (pe_var (i := i) (by rw [c.hN]; exact h1) (c.vis h2) d1 d2) fun σ H Q ⟨p, e, q⟩ => ⟨.ref p, e, q⟩
theorem app_run {Y : Cx} {i : Nat} {x : Ex} {D : Ends} {σ : L2.St} {H : Hp} (hs : x.st = true) (h : TSx Y.K Y.mg L W (.app i x) D σ H) : tDrop (tBM Y.K "list" rAppend (tPk i) (TAx Y.K Y.mg L W (.cons x .nil))) D σ H := by
  obtain ⟨H0, G0, ρ, G, o, h⟩ := h
  simp only [evS] at h
  split at h
  · rename_i ds eo
    obtain ⟨a, xs, e1, e2, e3, e4, e5, e6⟩ := o.own i ds eo
    refine ⟨a, e1, .inl ⟨rfl, xs, SqL.of e2⟩, H0, G0, ρ, G, o, ?_⟩
    simp only [evL]
    cases ev : evE L.U L.cl ρ x with
    | no => rw [ev] at h; exact h
    | ex c =>
      rw [ev] at h
      exact fun H' G' g => h σ H' G' (o.grow g)
    | ok d =>
      rw [ev] at h
      simp only [Out.of] at h
      intro vs H' G' g r q
      have q := q (by simp [Exs.allSt, hs])
      cases q with
      | cons q1 q2 =>
        cases q2
        split at h
        · rename_i hz
          have o' := o.grow g
          obtain ⟨a', xs', f1, f2, f3, f4, f5, f6⟩ := o'.own i ds eo
          rw [e1] at f1
          cases f1
          refine ⟨a, xs', _, rfl, rfl, f2, ?_, h σ _ G' (o'.mut eo e1 (by rw [List.length_append]; exact hz) (f6.append (.one q1)))⟩
          rw [f6.length, sizeLine_eq]
          omega
        · exact h.elim
  · exact h.elim
theorem q_app (c : Ctx L k N sc fl W X) {i : Nat} {y : Str} {p apos cpos pos : Pos} {e : Expr} {x : Ex} (h1 : N[i]? = some y) (h2 : visB sc y = true) (h3 : dbg y = false) (hns : noStar e = true) (hline : (apos.endLine == cpos.line) = true)
    (he : PE X e (TEx X.K X.mg L W x)) (hs : x.st = true) : PS X (.Expr (.Call (.Attribute (.Name y p) "append" apos) [e] [] cpos) pos) (TSx X.K X.mg L W (.app i x)) := by
  have ha : PA X [e] (TAx X.K X.mg L W (.cons x .nil)) := s_cons hns he s_nil
  refine PS.imp (ps_expr (pe_bm PySem.F.plainAttrs_list PySem.F.slot_list_append PySem.F.type_list_append mt_append (s_pk0 c h1 h2 h3) ha rfl (few_ok (by simp [hns]) (by show 1 < 30; omega)) hline (star1 hns) rfl) rfl) fun D σ H h => app_run hs h
theorem q_ext (c : Ctx L k N sc fl W X) {i : Nat} {y : Str} {p apos cpos pos : Pos} {e : Expr} {x : Ex} (h1 : N[i]? = some y) (h2 : visB sc y = true) (h3 : dbg y = false) (hns : noStar e = true) (hline : (apos.endLine == cpos.line) = true)
    (he : PE X e (TEx X.K X.mg L W x)) (hs : x.st = true) : PS X (.Expr (.Call (.Attribute (.Name y p) "extend" apos) [e] [] cpos) pos) (TSx X.K X.mg L W (.ext i x)) := by
  have ha : PA X [e] (TAx X.K X.mg L W (.cons x .nil)) := s_cons hns he s_nil
  refine PS.imp (ps_expr (pe_bm PySem.F.plainAttrs_list PySem.F.slot_list_extend PySem.F.type_list_extend mt_extend (s_pk0 c h1 h2 h3) ha rfl (few_ok (by simp [hns]) (by show 1 < 30; omega)) hline (star1 hns) rfl) rfl) fun D σ H h => ?_
  obtain ⟨H0, G0, ρ, G, o, h⟩ := h
  simp only [evS] at h
  split at h
  · rename_i ds eo
    obtain ⟨a, xs, e1, e2, e3, e4, e5, e6⟩ := o.own i ds eo
    refine ⟨a, e1, .inl ⟨rfl, xs, SqL.of e2⟩, H0, G0, ρ, G, o, ?_⟩
    simp only [evL]
    cases ev : evE L.U L.cl ρ x with
    | no => rw [ev] at h; exact h
    | ex c =>
      rw [ev] at h
      exact fun H' G' g => h σ H' G' (o.grow g)
    | ok d =>
      rw [ev] at h
      simp only [Out.of] at h
      intro vs H' G' g r q
      have q := q (by simp [Exs.allSt, hs])
      cases q with
      | cons q1 q2 =>
        cases q2
        split at h
        · rename_i es
          split at h
          · rename_i hz
            have o' := o.grow g
            obtain ⟨a', xs', f1, f2, f3, f4, f5, f6⟩ := o'.own i ds eo
            rw [e1] at f1
            cases f1
            cases q1 with
            | lst hb hbz hba =>
              refine ⟨a, _, xs', _, rfl, rfl, f2, o'.same _ _ hb, ?_, h σ _ G' (o'.mut eo e1 (by rw [List.length_append]; exact hz) (f6.append hba))⟩
              rw [f6.length, hba.length, sizeLine_eq]
              omega
          · exact h.elim
        · exact h.elim
  · exact h.elim
theorem q_seti (c : Ctx L k N sc fl W X) {i : Nat} {y : Str} {p tp pos : Pos} {e ke : Expr} {x kx : Ex} (h1 : N[i]? = some y) (h2 : visB sc y = true) (h3 : dbg y = false) (hk : notSlice ke = true)
    (he : PE X e (TEx X.K X.mg L W x)) (hs : x.st = true) (hke : PE X ke (TEx X.K X.mg L W kx)) : PS X (.Assign [.Subscript (.Name y p) ke tp] e pos) (TSx X.K X.mg L W (.seti i kx x)) := by
  refine PS.imp (ps_asg he (pg_sub (s_pk0 c h1 h2 h3) hke set_list (by intro v; cases ke <;> first | rfl | cases hk)) sw_sub ss_sub rfl) fun D σ H h => ?_
  obtain ⟨H0, G0, ρ, G, o, h⟩ := h
  simp only [evS] at h
  refine TEx.st o h fun d v H' G' o' g r q => ?_
  rw [hs] at r
  split at q
  · rename_i ds eo
    obtain ⟨a, xs, e1, e2, e3, e4, e5, e6⟩ := o'.own i ds eo
    refine ⟨a, e1, TEx.st o' q fun z w H2 G2 o2 g2 r2 q2 => ?_⟩
    split at q2
    · rename_i j
      split at q2
      · rename_i n en
        obtain ⟨a', xs', f1, f2, f3, f4, f5, f6⟩ := o2.own i ds eo
        rw [e1] at f1
        cases f1
        refine ⟨a, xs', j, n, rfl, r2.rs.int, f2, by rw [f6.length]; exact en, q2 σ _ G2 (o2.mut eo e1 (by rw [List.length_set]; exact f5) (f6.set (Rp.mono g2.g _ _ r) n))⟩
      · exact q2.elim
    · exact q2.elim
  · exact q.elim
theorem TAx.st {K : PySem.W.Frag} {mg : Str → Option Value} {xs : Exs} {Dn : Ends} {σ : L2.St} {H H0 G0 G : Hp} {ρ : List Sl} {f : List D → Out} {Q : List V → Hp → Prop} (hst : xs.allSt = true) (o : Ok K mg H0 G0 ρ σ H G) (h : Wt K mg L W Dn H0 G0 (Out.of ρ (evL L.U L.cl ρ xs) f))
    (hk : ∀ ds vs H' G', evL L.U L.cl ρ xs = .ok ds → Ok K mg H0 G0 ρ σ H' G' → Gr H G H' G' → RpA K mg G' vs ds → Wt K mg L W Dn H0 G0 (f ds) → Q vs H') : TAx K mg L W xs σ H Q := by
  refine ⟨H0, G0, ρ, G, o, ?_⟩
  unfold WnL
  cases e : evL L.U L.cl ρ xs with
  | ok d =>
    rw [e] at h
    exact fun v H' G' g r q => hk d v H' G' e (o.grow g) g (q hst) h
  | ex c =>
    rw [e] at h
    exact fun H' G' g => h σ H' G' (o.grow g)
  | no => rw [e] at h; exact h
theorem q_newd (c : Ctx L k N sc fl W X) {i : Nat} {y : Str} {py dp pos : Pos} (hn : chkN N sc fl (.Name y py) i = true) :
    PS X (.Assign [.Name y py] (.Dict [] [] dp) pos) (TSx X.K X.mg L W (.newd i)) := by
  simp only [chkN, Bool.and_eq_true] at hn
  obtain ⟨⟨h1, h2⟩, h3⟩ := hn
  have h1' : N[i]? = some y := by
    split at h1
    · rename_i z e; rw [e, of_decide_eq_true h1]
    · cases h1
  refine PS.imp (ps_set (by rw [c.hN]; exact c.nd) (by rw [c.hN]; exact h1') (c.loc h2) pe_dnewT rfl (c.fn y h3)) fun D σ H h => ?_
  obtain ⟨H0, G0, ρ, G, o, h⟩ := h
  simp only [evS] at h
  intro p hp
  have g : Gr H G (upd H p (.dT [])) G := Gr.own o.same _ hp
  exact h _ _ G ((o.grow g).setD i upd_same (none_of o.same hp) (o.base.h.free hp) (fun j es hj => o.noDic hp j es hj) (by simp) .nil)
theorem q_setd (c : Ctx L k N sc fl W X) {i j : Nat} {y : Str} {p p2 tp pos : Pos} {e : Expr} {es : List Expr} {x : Ex} {xs : Exs} (h1 : N[i]? = some y) (h2 : visB sc y = true) (h3 : dbg y = false) (hw : swapsWith e (some (.Subscript (.Name y p) (.Tuple es j p2) tp)) pos.line X.env = pure false)
    (he : PE X e (TEx X.K X.mg L W x)) (hs : x.st = true) (ha : PA X es (TAx X.K X.mg L W xs)) (hst : xs.allSt = true) (hl : xs.len ≤ 1000) : PS X (.Assign [.Subscript (.Name y p) (.Tuple es j p2) tp] e pos) (TSx X.K X.mg L W (.setd i xs x)) := by
  refine PS.imp (ps_dput (by have := c.units; omega) (s_pk0 c h1 h2 h3) (pe_tup ha) he hw) fun D σ H h => ?_
  obtain ⟨H0, G0, ρ, G, o, h⟩ := h
  simp only [evS] at h
  refine TEx.st o h fun d v H' G' o' g r q => ?_
  rw [hs] at r
  split at q
  · rename_i kvs eo
    obtain ⟨a, ws, e1, e2, e3, e4, e5, e6⟩ := o'.dic i kvs eo
    refine ⟨a, e1, TAx.st hst o' q fun ds vs H2 G2 el o2 g2 r2 q2 => ?_⟩
    have hd := evL_len el
    have hv := r2.length
    refine ⟨le_sl (by omega), fun q hq => ?_⟩
    split at q2
    · rename_i kk ek
      split at q2
      · rename_i hkl
        obtain ⟨a', ws', f1, f2, f3, f4, f5, f6⟩ := o2.dic i kvs eo
        rw [e1] at f1
        cases f1
        have hvk := keyL_ok r2 ek
        have hne : a ≠ q := fun z => by rw [z, hq] at f2; cases f2
        have g3 : Gr H2 G2 (upd H2 q (.tup vs)) G2 := Gr.own o2.same _ hq
        refine ⟨a, _, rfl, DPut.t (kvs := ws') (k := kk) (by rw [upd_ne hne]; exact f2) (by rw [upd_same, hvk]) (Nat.lt_of_le_of_lt (show ws'.length ≤ 1000000 by rw [f6.length]; omega) (by rw [sizeLine_eq]; decide)), ?_⟩
        exact q2 σ _ G2 ((o2.grow g3).mutD eo e1 (Nat.le_trans (putD_len _ _ _) hkl) (f6.put (Rp.mono g2.g _ _ r)))
      · exact q2.elim
    · exact q2.elim
  · exact q.elim
theorem q_whl (c : CtS L k N sc W X) {e : Expr} {x : Ex} {body : List Stmt} {xb : Sxs} {pos : Pos} (he : PT X e (TTx X.K X.mg L W x)) (hb : PSs X body (TSs X.K X.mg L W xb)) : PS X (.While e body [] pos) (TSx X.K X.mg L W (.whl x xb)) := by
  refine PS.imp (ps_while c.po he hb) fun D σ H h => ?_
  obtain ⟨H0, G0, ρ, G, o, h⟩ := h
  simp only [evS] at h
  refine ⟨fun m σ' H' => ∃ ρ' G', Ok X.K X.mg H0 G0 ρ' σ' H' G' ∧ Wt X.K X.mg L W D H0 G0 (whlGo (fun ρ => (evE L.U L.cl ρ x).bind fun d => .ofO (truth d)) (fun ρ => evSs L.U L.cl ρ xb) m ρ'), ⟨100000, ρ, G, o, h⟩, ?_⟩
  rintro m σ' H' ⟨ρ', G', o', w⟩
  cases m with
  | zero => exact w.elim
  | succ m =>
    simp only [whlGo] at w
    refine ⟨H0, G0, ρ', G', o', ?_⟩
    cases ec : ((evE L.U L.cl ρ' x).bind fun d => Res.ofO (truth d)) with
    | no => rw [ec] at w; exact w
    | ex c =>
      rw [ec] at w
      exact fun H2 G2 g => w σ' H2 G2 (o'.grow g)
    | ok b =>
      rw [ec] at w
      intro H2 G2 g2
      have o2 := o'.grow g2
      cases b with
      | false => exact w σ' H2 G2 o2
      | true =>
        refine ⟨fun σ3 H3 => ∃ ρ3 G3, Ok X.K X.mg H0 G0 ρ3 σ3 H3 G3 ∧ Wt X.K X.mg L W D H0 G0 (whlGo (fun ρ => (evE L.U L.cl ρ x).bind fun d => .ofO (truth d)) (fun ρ => evSs L.U L.cl ρ xb) m ρ3), fun σ3 H3 q => ⟨m, Nat.lt_succ_self _, q⟩, H0, G0, ρ', G2, o2, ?_⟩
        simp only [Out.of] at w
        cases es : evSs L.U L.cl ρ' xb with
        | nx ρ4 =>
          rw [es] at w
          exact fun σ5 H5 G5 o5 => ⟨ρ4, G5, o5, w⟩
        | ret d => rw [es] at w; exact w
        | ex c ρ4 => rw [es] at w; exact w
        | no => rw [es] at w; exact w
end

/-! ### parallel stores -/
inductive RpM (K : PySem.W.Frag) (mg : Str → Option Value) (Hs G H : Hp) : List Bool → List V → List D → Prop
  | nil : RpM K mg Hs G H [] [] []
  | val {v : V} {d : D} {bs : List Bool} {vs : List V} {ds : List D} : Rp K mg G v d → RpM K mg Hs G H bs vs ds → RpM K mg Hs G H (false :: bs) (v :: vs) (d :: ds)
  | own {p : Addr} {xs : List V} {es : List D} {bs : List Bool} {vs : List V} {ds : List D} : Hs p = none → H p = some (.lst xs) → G p = none → es.length ≤ 1000000 → RpA K mg G xs es →
      (∀ (m : Nat) q, bs[m]? = some true → vs[m]? = some (V.ref q) → q ≠ p) → RpM K mg Hs G H bs vs ds → RpM K mg Hs G H (true :: bs) (V.ref p :: vs) (.list es :: ds)
section
variable {K : PySem.W.Frag} {mg : Str → Option Value} {L : Lg} {W : WX}
/-- a new one is in no old heap -/
theorem RpM.new {Hs G H : Hp} : ∀ {bs : List Bool} {vs : List V} {ds : List D}, RpM K mg Hs G H bs vs ds → ∀ (m : Nat) q, bs[m]? = some true → vs[m]? = some (V.ref q) → Hs q = none
  | _, _, _, .nil, m, q, h, _ => by simp at h
  | _, _, _, .val _ t, 0, q, h, _ => by simp at h
  | _, _, _, .val _ t, m + 1, q, h, h' => RpM.new t m q (by simpa using h) (by simpa using h')
  | _, _, _, .own a _ _ _ _ _ t, 0, q, h, h' => by
    simp at h'
    subst h'
    exact a
  | _, _, _, .own _ _ _ _ _ _ t, m + 1, q, h, h' => RpM.new t m q (by simpa using h) (by simpa using h')
theorem RpM.old {Hs Hs' G H : Hp} (s : Same Hs' Hs) : ∀ {bs : List Bool} {vs : List V} {ds : List D}, RpM K mg Hs G H bs vs ds → RpM K mg Hs' G H bs vs ds
  | _, _, _, .nil => .nil
  | _, _, _, .val a t => .val a (RpM.old s t)
  | _, _, _, .own a b c d e f t => .own (s.free a) b c d e f (RpM.old s t)
def WnP (K : PySem.W.Frag) (mg : Str → Option Value) (L : Lg) (W : WX) (σ : L2.St) (H G : Hp) (bs : List Bool) (r : Res (List D)) (Q : List V → Hp → Prop) : Prop := match r with
  | .ok ds => ∀ vs H' G', Gr H G H' G' → RpM K mg H G' H' bs vs ds → Q vs H'
  | .ex c => ∀ H' G', Gr H G H' G' → W (.ref (L.ec c)) none σ H'
  | .no => False
def TPx (K : PySem.W.Frag) (mg : Str → Option Value) (L : Lg) (W : WX) (bs : List Bool) (x : Exs) : TA := fun σ H Q => ∃ H0 G0 ρ G, Ok K mg H0 G0 ρ σ H G ∧ WnP K mg L W σ H G bs (evL L.U L.cl ρ x) Q
end
section
variable {L : Lg} {k : Nat} {N : List Str} {sc : Scope} {fl : Str → Bool} {W : WX} {X : Cx}
theorem p_nil : PA X [] (TPx X.K X.mg L W [] .nil) := by
  refine PA.imp pa_nil fun σ H Q h => ?_
  obtain ⟨H0, G0, ρ, G, o, h⟩ := h
  simp only [evL] at h
  exact h [] H G (Gr.refl o.same) .nil
theorem p_val {e : Expr} {es : List Expr} {x : Ex} {xs : Exs} {bs : List Bool} (hn : noStar e = true) (hs : x.st = true) (he : PE X e (TEx X.K X.mg L W x)) (hes : PA X es (TPx X.K X.mg L W bs xs)) : PA X (e :: es) (TPx X.K X.mg L W (false :: bs) (.cons x xs)) := by
  refine PA.imp (pa_cons he hes (star1 hn)) fun σ H Q h => ?_
  obtain ⟨H0, G0, ρ, G, o, h⟩ := h
  simp only [evL] at h
  refine ⟨H0, G0, ρ, G, o, ?_⟩
  cases e1 : evE L.U L.cl ρ x with
  | no => rw [e1] at h; exact h
  | ex c => rw [e1] at h; exact h
  | ok d =>
    rw [e1] at h
    intro v H1 G1 g1 r1
    rw [hs] at r1
    refine ⟨H0, G0, ρ, G1, o.grow g1, ?_⟩
    simp only [Res.bind_ok] at h
    cases e2 : evL L.U L.cl ρ xs with
    | no => rw [e2] at h; exact h
    | ex c =>
      rw [e2] at h
      exact fun H' G' g => h H' G' (g1.trans g)
    | ok ds =>
      rw [e2] at h
      intro vs H2 G2 g2 r2
      exact h (v :: vs) H2 G2 (g1.trans g2) (.val (Rp.mono g2.g _ _ r1) (r2.old g1.h))
theorem p_own {e : Expr} {es : List Expr} {x : Ex} {xs : Exs} {bs : List Bool} (hn : noStar e = true) (hl : ∀ ρ d, evE L.U L.cl ρ x = .ok d → ∃ ds, d = .list ds) (he : PE X e (TFx X.K X.mg L W x)) (hes : PA X es (TPx X.K X.mg L W bs xs)) : PA X (e :: es) (TPx X.K X.mg L W (true :: bs) (.cons x xs)) := by
  refine PA.imp (pa_cons he hes (star1 hn)) fun σ H Q h => ?_
  obtain ⟨H0, G0, ρ, G, o, h⟩ := h
  simp only [evL] at h
  refine ⟨H0, G0, ρ, G, o, ?_⟩
  cases e1 : evE L.U L.cl ρ x with
  | no => rw [e1] at h; exact h
  | ex c => rw [e1] at h; exact h
  | ok d =>
    obtain ⟨ds0, rfl⟩ := hl _ _ e1
    rw [e1] at h
    intro p H1 G1 ys g1 a1 a2 a3 a4 a5
    refine ⟨H0, G0, ρ, G1, o.grow g1, ?_⟩
    simp only [Res.bind_ok] at h
    cases e2 : evL L.U L.cl ρ xs with
    | no => rw [e2] at h; exact h
    | ex c =>
      rw [e2] at h
      exact fun H' G' g => h H' G' (g1.trans g)
    | ok ds =>
      rw [e2] at h
      intro vs H2 G2 g2 r2
      refine h (V.ref p :: vs) H2 G2 (g1.trans g2) (.own a1 (g2.h _ _ a2) (g2.f p a3 (by rw [a2]; exact fun z => by cases z)) a5 (RpA.mono g2.g _ _ a4) (fun m q h1 h2 z => ?_) (r2.old g1.h))
      have z2 := r2.new m q h1 h2
      rw [z, a2] at z2
      cases z2
def setV : L2.St → List Nat → List V → L2.St
  | σ, i :: is, v :: vs => setV (σ.set i (some v)) is vs
  | σ, _, _ => σ
theorem par_ok {K : PySem.W.Frag} {mg : Str → Option Value} {H0 G0 Hs H G : Hp} (hH : Same H0 Hs) : ∀ {ts : List (Nat × Bool)} {ρ ρ' : List Sl} {σ : L2.St} {vs : List V} {ds : List D}, Ok K mg H0 G0 ρ σ H G → RpM K mg Hs G H (ts.map (·.2)) vs ds →
    (∀ (m : Nat) q, (ts.map (·.2))[m]? = some true → vs[m]? = some (V.ref q) → ∀ (j : Nat) es, ρ[j]? = some (Sl.own es) → σ[j]? ≠ some (some (V.ref q))) → parGo ρ ts ds = some ρ' → Ok K mg H0 G0 ρ' (setV σ (ts.map (·.1)) vs) H G
  | [], ρ, ρ', σ, vs, ds, o, r, hd, e => by
    cases r
    cases Option.some.inj e
    exact o
  | (i, false) :: ts, ρ, ρ', σ, vs, ds, o, r, hd, e => by
    cases r with
    | val r1 r2 =>
      refine par_ok hH (ts := ts) (o.set i r1) r2 (fun m q h1 h2 j es hj => ?_) e
      rcases get_set hj with ⟨_, z⟩ | ⟨ne, z⟩
      · cases z
      · rw [List.getElem?_set_ne (fun z => ne z.symm)]
        exact hd (m + 1) q h1 h2 j es z
  | (i, true) :: ts, ρ, ρ', σ, vs, ds, o, r, hd, e => by
    cases r with
    | own a1 a2 a3 a4 a5 a6 r2 =>
      rename_i p xs es vs ds
      refine par_ok hH (ts := ts) (o.setO i a2 a3 (hH.free a1) (fun j es hj => hd 0 p rfl rfl j es hj) a4 a5) r2 (fun m q h1 h2 j es hj => ?_) e
      rcases get_set hj with ⟨rfl, z⟩ | ⟨ne, z⟩
      · intro z2
        by_cases hl : j < σ.length
        · rw [List.getElem?_set_self hl] at z2
          cases z2
          exact a6 m _ h1 h2 rfl
        · rw [List.getElem?_eq_none (by rw [List.length_set]; omega)] at z2
          cases z2
      · rw [List.getElem?_set_ne (fun z => ne z.symm)]
        exact hd (m + 1) q h1 h2 j es z
/-- what the parallel stores leave -/
theorem par_run {K : PySem.W.Frag} {mg : Str → Option Value} {ts : List (Nat × Bool)} {xs : Exs} {Dn : Ends} {σ : L2.St} {H : Hp} (h : TSx K mg L W (.par ts xs) Dn σ H) :
    TPx K mg L W (ts.map (·.2)) xs σ H fun vs H1 => Dn.nx (setV σ (ts.map (·.1)) vs) H1 := by
  obtain ⟨H0, G0, ρ, G, o, h⟩ := h
  simp only [evS] at h
  refine ⟨H0, G0, ρ, G, o, ?_⟩
  cases e : evL L.U L.cl ρ xs with
  | no => rw [e] at h; exact h
  | ex c =>
    rw [e] at h
    exact fun H' G' g => h σ H' G' (o.grow g)
  | ok ds =>
    rw [e] at h
    simp only [Out.of] at h
    intro vs H1 G1 g1 r1
    cases ep : parGo ρ ts ds with
    | none => rw [ep] at h; exact h.elim
    | some ρ' =>
      rw [ep] at h
      exact h _ H1 G1 (par_ok o.base.h (o.grow g1) r1 (fun m q h1 h2 j es hj => o.noOwn (r1.new m q h1 h2) j es hj) ep)
end
end Bg

set_option Elab.async false
set_option linter.all false
set_option maxRecDepth 100000
set_option maxHeartbeats 4000000
/-! Parallel stores of two and of three; lists newly made by + and by *. -/
namespace Bg
open PySem PySem.Spec L2

/-- does a, b = x, y store from the right: none where the model does not say -/
def swapD (sc : Scope) (ts vs : List Expr) : Option (Option (List Str)) :=
  if (!(ts.length == 2 || ts.length == 3) || vs.length != ts.length) = true then some none
  else if (vs.any fun | .Starred .. => true | _ => false) = true then some none
  else
    let line := (ts.head?.map (·.pos.line)).getD 0
    let names := ts.filterMap fun
      | .Name id pos => if (sc.names.lookup id == some .local && pos.line == line) = true then some id else none
      | _ => none
    if (names.length != ts.length || names.eraseDups.length != names.length) = true then some none
    else if vs.all (foldedForSure 8) = true then some none
    else if vs.all (constantsAlone 8) = true then none
    else some (some names)
theorem swap_eq {env : Env} {ts vs : List Expr} {j j2 : Nat} {p p2 : Pos} {r : Option (List Str)} (hk : env.scope.kind = .function) (h : swapD env.scope ts vs = some r) : swappedStores [.Tuple ts j p] (.Tuple vs j2 p2) env = pure r := by
  have hb : env.blockKind = .function := by unfold Env.blockKind; rw [hk]; rfl
  have hb' : (env.blockKind != .function) = false := by rw [hb]; rfl
  unfold swapD at h
  unfold swappedStores
  dsimp only
  rw [hb', Bool.or_false]
  split at h
  · rename_i c; rw [if_pos c]; cases h; rfl
  · rename_i c1
    rw [if_neg c1]
    split at h
    · rename_i c; cases h; exact (if_pos c).trans rfl
    · rename_i c2
      refine (if_neg c2).trans ?_
      dsimp only at h
      split at h
      · rename_i c; cases h
        exact (if_pos c).trans rfl
      · rename_i c3
        refine (if_neg c3).trans ?_
        split at h
        · rename_i c; cases h; exact (if_pos c).trans rfl
        · rename_i c4
          refine (if_neg c4).trans ?_
          split at h
          · cases h
          · rename_i c5; cases h; exact (if_neg c5).trans rfl
section
variable {L : Lg} {k : Nat} {N : List Str} {sc : Scope} {fl : Str → Bool} {W : WX} {X : Cx}
theorem RpM.length {K : PySem.W.Frag} {mg : Str → Option Value} {Hs G H : Hp} : ∀ {bs : List Bool} {vs : List V} {ds : List D}, RpM K mg Hs G H bs vs ds → vs.length = bs.length
  | _, _, _, .nil => rfl
  | _, _, _, .val _ t => by simp [RpM.length t]
  | _, _, _, .own _ _ _ _ _ _ t => by simp [RpM.length t]
theorem TPx.imp {K : PySem.W.Frag} {mg : Str → Option Value} {bs : List Bool} {xs : Exs} {σ : L2.St} {H : Hp} {Q Q' : List V → Hp → Prop} (h : TPx K mg L W bs xs σ H Q) (i : ∀ vs H', vs.length = bs.length → Q vs H' → Q' vs H') : TPx K mg L W bs xs σ H Q' := by
  obtain ⟨H0, G0, ρ, G, o, h⟩ := h
  refine ⟨H0, G0, ρ, G, o, ?_⟩
  cases e : evL L.U L.cl ρ xs with
  | no => rw [e] at h; exact h
  | ex c => rw [e] at h; exact h
  | ok ds => rw [e] at h; exact fun vs H' G' g r => i vs H' r.length (h vs H' G' g r)
theorem q_par2 (c : Ctx L k N sc fl W X) {i j : Nat} {bi bj : Bool} {x y : Str} {px py pt pt2 pos : Pos} {kt k2 : Nat} {a b : Expr} {xs : Exs} (hi : N[i]? = some x) (hj : N[j]? = some y) (hij : i ≠ j) (hx : sc.names.lookup x = some .local) (hy : sc.names.lookup y = some .local)
    (hw : swapD sc [.Name x px, .Name y py] [a, b] = some (some [x, y])) (ha : PA X [a, b] (TPx X.K X.mg L W [bi, bj] xs)) :
    PS X (.Assign [.Tuple [.Name x px, .Name y py] kt pt] (.Tuple [a, b] k2 pt2) pos) (TSx X.K X.mg L W (.par [(i, bi), (j, bj)] xs)) := by
  refine PS.imp (ps_par c.calm (by rw [c.hN]; exact c.nd) (by rw [c.hN]; exact hi) (by rw [c.hN]; exact hj) hij (by rw [c.hsc]; exact hx) (by rw [c.hsc]; exact hy) ha (swap_eq (by rw [c.hsc]; exact c.kind) (by rw [c.hsc]; exact hw)) sw_tup) fun D σ H h => ?_
  refine TPx.imp (par_run h) fun vs H' hl q => ?_
  match vs, hl, q with
  | [v, w], _, q => exact ⟨v, w, rfl, q⟩
theorem q_par3 (c : Ctx L k N sc fl W X) {i j l : Nat} {bi bj bl : Bool} {x y z : Str} {px py pz pt pt2 pos : Pos} {kt k2 : Nat} {a b d : Expr} {xs : Exs} (hi : N[i]? = some x) (hj : N[j]? = some y) (hl : N[l]? = some z) (hij : i ≠ j) (hil : i ≠ l) (hjl : j ≠ l)
    (hx : sc.names.lookup x = some .local) (hy : sc.names.lookup y = some .local) (hz : sc.names.lookup z = some .local)
    (hw : swapD sc [.Name x px, .Name y py, .Name z pz] [a, b, d] = some (some [x, y, z])) (ha : PA X [a, b, d] (TPx X.K X.mg L W [bi, bj, bl] xs)) :
    PS X (.Assign [.Tuple [.Name x px, .Name y py, .Name z pz] kt pt] (.Tuple [a, b, d] k2 pt2) pos) (TSx X.K X.mg L W (.par [(i, bi), (j, bj), (l, bl)] xs)) := by
  refine PS.imp (ps_par3 c.calm (by rw [c.hN]; exact c.nd) (by rw [c.hN]; exact hi) (by rw [c.hN]; exact hj) (by rw [c.hN]; exact hl) hij hil hjl (by rw [c.hsc]; exact hx) (by rw [c.hsc]; exact hy) (by rw [c.hsc]; exact hz) ha (swap_eq (by rw [c.hsc]; exact c.kind) (by rw [c.hsc]; exact hw)) sw_tup) fun D σ H h => ?_
  refine TPx.imp (par_run h) fun vs H' hl q => ?_
  match vs, hl, q with
  | [v, w, u], _, q => exact ⟨v, w, u, rfl, q⟩

/-! ### parallel stores through a tuple -/
theorem gNames_ok : ∀ {is : List Nat} {vs : List V} {σ : L2.St} {H : Hp} {Q : L2.St → Hp → Prop}, is.length = vs.length → Q (setV σ is vs) H → gNames is vs σ H Q
  | [], [], σ, H, Q, _, q => ⟨rfl, q⟩
  | i :: is, v :: vs, σ, H, Q, hl, q => ⟨v, vs, rfl, gNames_ok (is := is) (by simpa using hl) q⟩
  | [], _ :: _, _, _, _, hl, _ => by cases hl
  | _ :: _, [], _, _, _, hl, _ => by cases hl
theorem par_runT {K : PySem.W.Frag} {mg : Str → Option Value} {ts : List (Nat × Bool)} {xs : Exs} {Dn : Ends} {σ : L2.St} {H : Hp} (h : TSx K mg L W (.par ts xs) Dn σ H) :
    TPx K mg L W (ts.map (·.2)) xs σ H fun vs H1 => ∀ p, H1 p = none → Dn.nx (setV σ (ts.map (·.1)) vs) (upd H1 p (.tup vs)) := by
  obtain ⟨H0, G0, ρ, G, o, h⟩ := h
  simp only [evS] at h
  refine ⟨H0, G0, ρ, G, o, ?_⟩
  cases e : evL L.U L.cl ρ xs with
  | no => rw [e] at h; exact h
  | ex c => rw [e] at h; exact fun H' G' g => h σ H' G' (o.grow g)
  | ok ds =>
    rw [e] at h
    simp only [Out.of] at h
    intro vs H1 G1 g1 r1 p hp
    cases ep : parGo ρ ts ds with
    | none => rw [ep] at h; exact h.elim
    | some ρ' =>
      rw [ep] at h
      have o1 := par_ok o.base.h (o.grow g1) r1 (fun m q h1 h2 j es hj => o.noOwn (r1.new m q h1 h2) j es hj) ep
      exact h _ _ G1 (o1.grow (Gr.own o1.same (.tup vs) hp))
theorem q_parN (c : Ctx L k N sc fl W X) {ts : List (Nat × Bool)} {es vs : List Expr} {j j2 : Nat} {p p2 pos : Pos} {xs : Exs} (hn : chkNs N sc fl es (ts.map (·.1)) = true) (hl : ts.length ≤ 1000) (hw : swapD sc es vs = some none) (ha : PA X vs (TPx X.K X.mg L W (ts.map (·.2)) xs)) :
    PS X (.Assign [.Tuple es j p] (.Tuple vs j2 p2) pos) (TSx X.K X.mg L W (.par ts xs)) := by
  have hg : PG X (.Tuple es j p) (gT X.K (.tup (ts.map (·.1)))) := by
    have hc : chkT N sc fl (.Tuple es j p) (.tup (ts.map (·.1))) = true := hn
    exact chkT_ok c hc
  refine PS.imp (ps_asg (pe_tup ha) hg sw_tup (swap_eq (by rw [c.hsc]; exact c.kind) (by rw [c.hsc]; exact hw)) rfl) fun D σ H h => ?_
  refine TPx.imp (par_runT h) fun us H1 hu q => ?_
  rw [List.length_map] at hu
  refine ⟨le_sl (by omega), fun q0 hq0 => ⟨q0, us, rfl, SqT.of upd_same, by rw [List.length_map]; exact hu, gNames_ok (by rw [List.length_map]; exact hu.symm) (q q0 hq0)⟩⟩

/-! ### lists newly made -/
theorem FinO.newL {K : PySem.W.Frag} {mg : Str → Option Value} {H G : Hp} {Q : VK} {ds : List D} {xs : List V} (s : Same G H) (f : FinO K mg H G Q ds) (h : RpA K mg G xs ds) (hz : ds.length ≤ 1000000) {p : Addr} (hp : H p = none) : Q (.ref p) (upd H p (.lst xs)) :=
  f p _ G xs (Gr.own s _ hp) hp upd_same (none_of s hp) h hz
def rBF (K : PySem.W.Frag) (mg : Str → Option Value) (f : D → D → Option D) : R2 := fun x y H Q => ∃ G a b ds, Same G H ∧ Rs K mg G H x a ∧ Rs K mg G H y b ∧ f a b = some (.list ds) ∧ FinO K mg H G Q ds
theorem op_mulF : OpR X (binaryOp .Mult) (rBF X.K X.mg bMul) := by
  intro pins s σ H x y v u Q I rx ry h
  obtain ⟨G, a, b, d, s0, hx, hy, e, f⟩ := h
  cases a <;> cases b <;> simp only [bMul, reduceCtorEq] at e
  · obtain ⟨c, z⟩ := gd_some e
    cases z
  · obtain ⟨⟨c1, c2, c3⟩, z⟩ := gd_some e
    cases z
  · obtain ⟨⟨c1, c2, c3⟩, z⟩ := gd_some e
    cases z
    obtain ⟨p, xs, rfl, hp, ha⟩ := hx.lst s0
    have := sizeLine_eq
    exact op_rep pins s σ H _ _ v u Q I rx ry ⟨p, _, xs, rfl, hy.int, hp, by omega, by omega, by rw [ha.length]; omega, fun z hz => f.newL s0 (ha.flat _) (by rw [len_flat, Nat.mul_comm]; omega) hz⟩
  · obtain ⟨⟨c1, c2, c3, c4⟩, z⟩ := gd_some e
    cases z
theorem op_addF : OpR X (binaryOp .Add) (rBF X.K X.mg bAdd) := by
  intro pins s σ H x y v u Q I rx ry h
  obtain ⟨G, a, b, d, s0, hx, hy, e, f⟩ := h
  cases a <;> cases b <;> simp only [bAdd, reduceCtorEq, Option.some.injEq] at e
  · obtain ⟨c, z⟩ := gd_some e
    cases z
  · obtain ⟨c, z⟩ := gd_some e
    cases z
    obtain ⟨p, xs, rfl, hp, ha⟩ := hx.lst s0
    obtain ⟨q, ys, rfl, hq, hb⟩ := hy.lst s0
    exact op_cat pins s σ H _ _ v u Q I rx ry ⟨p, q, xs, ys, rfl, rfl, hp, hq, by rw [ha.length, hb.length]; exact le_sl c, fun z hz => f.newL s0 (ha.append hb) (by rw [List.length_append]; exact c) hz⟩
  · obtain ⟨c, z⟩ := gd_some e
    cases z
theorem WnF.grow {K : PySem.W.Frag} {mg : Str → Option Value} {σ : L2.St} {H G H1 G1 : Hp} {r : Res D} {Q : VK} (g : Gr H G H1 G1) (h : WnF K mg L W σ H G r Q) : WnF K mg L W σ H1 G1 r Q := by
  cases r with
  | no => exact h
  | ex c => exact fun H' G' g' => h H' G' (g.trans g')
  | ok d =>
    cases d with
    | list ds => exact fun p H' G' xs g' h1 h2 h3 h4 h5 => h p H' G' xs (g.trans g') (g.h.free h1) h2 h3 h4 h5
    | _ => exact h
theorem ev1F {K : PySem.W.Frag} {mg : Str → Option Value} {σ : L2.St} {H0 G0 H G : Hp} {ρ : List Sl} {a : Ex} {f : D → Res D} {Q Q' : VK} (o : Ok K mg H0 G0 ρ σ H G) (h : WnF K mg L W σ H G ((evE L.U L.cl ρ a).bind f) Q)
    (hk : ∀ d v H1 G1, Gr H G H1 G1 → Ok K mg H0 G0 ρ σ H1 G1 → Rx a.st K mg G1 H1 v d → WnF K mg L W σ H1 G1 (f d) Q → Q' v H1) : TEx K mg L W a σ H Q' :=
  run_ex (B := fun r H G => WnF K mg L W σ H G r Q) o h (fun _ h => h) (fun h => h) (fun _ _ _ g h => h.grow g) hk
theorem s_binF {op : Operator} {bo : Bop} {a b : Expr} {x y : Ex} {pos : Pos} (ho : OpR X (binaryOp op) (rBF X.K X.mg (bop bo))) (ha : PE X a (TEx X.K X.mg L W x)) (hb : PE X b (TEx X.K X.mg L W y)) : PE X (.BinOp a op b pos) (TFx X.K X.mg L W (.bin bo x y)) := by
  refine PE.imp (pe_op ho ha hb) fun σ H Q h => ?_
  obtain ⟨H0, G0, ρ, G, o, h⟩ := h
  simp only [evE] at h
  refine ev1F o h fun d v H1 G1 g1 o1 r1 h1 => ev1F o1 h1 fun e w H2 G2 g2 o2 r2 h2 => ?_
  cases q : bop bo d e with
  | none => rw [q] at h2; exact h2.elim
  | some z =>
    rw [q] at h2
    cases z with
    | list ds => exact ⟨G2, d, e, ds, o2.same, r1.rs.gr g2, r2.rs, q, h2⟩
    | _ => exact h2.elim
end

/-! ### raise, and except without a name -/
section
variable {L : Lg} {k : Nat} {N : List Str} {sc : Scope} {fl : Str → Bool} {W : WX} {X : Cx}
theorem q_raise (c : CtS L k N sc W X) {i : Nat} {x m : Str} {j : Nat} {p p2 p3 pos : Pos} (hi : L.P.exc i = some x) (hg : glB sc x = true) (hd : dbg x = false) : PS X (.Raise (some (.Call (.Name x p) [.Constant (.str m) j p2] [] p3)) none pos) (TSx X.K X.mg L W (.raise i)) := by
  obtain ⟨g, kp, ei, r⟩ := c.exc i x hi
  refine PS.imp (L2.ps_raise c.c.calm c.c.takes (L2.pmk_own PySem.F.excBase_ValueError ei g kp r (c.c.gl hg) (dbg_ok hd).1)) fun D σ H h => ?_
  obtain ⟨H0, G0, ρ, G, o, h⟩ := h
  simp only [evS] at h
  exact h σ H G o
/-- what an except suite needs -/
structure CtH (N : List Str) (sc : Scope) (Y : Cx) : Prop where
  hN : Y.N = N
  hsc : Y.env.scope = sc
theorem CtH.vis {Y : Cx} (c : CtH N sc Y) {x : Str} (h : visB sc x = true) : Vis Y.env.scope x := by
  rw [c.hsc]
  unfold visB at h
  unfold Vis
  split at h
  · rename_i e; exact .inl e
  · rename_i e; exact .inr (.inl e)
  · rename_i e; exact .inr (.inr e)
  · cases h
/-- a constant, a slot -/
def ckH (N : List Str) (sc : Scope) (x : Ex) (e : Expr) : Bool := match x with
  | .non => (match e with | .Constant .none _ _ => true | _ => false)
  | .bl b => (match e with | .Constant (.bool c) _ _ => decide (b = c) | _ => false)
  | .int b => (match e with | .Constant (.int c) _ _ => decide (b = c) | _ => false)
  | .str b => (match e with | .Constant (.str c) _ _ => decide (b = c) && decide (b.length ≤ 1000000) | _ => false)
  | .var i => (match e with | .Name y _ => nmB N i y && visB sc y && !dbg y | _ => false)
  | _ => false
theorem ckH_ok {Y : Cx} (c : CtH N sc Y) {x : Ex} {e : Expr} (h : ckH N sc x e = true) : PE Y e (TEx Y.K Y.mg L W x) ∧ x.st = true ∧ noStar e = true := by
  unfold ckH at h
  split at h
  · split at h
    · exact ⟨s_cst pe_non rfl (fun ρ => by simp only [evE]) fun G => .non, rfl, rfl⟩
    · cases h
  · split at h
    · rw [decide_eq_true_eq] at h
      subst h
      exact ⟨s_cst pe_bl rfl (fun ρ => by simp only [evE]) fun G => .bl _, rfl, rfl⟩
    · cases h
  · split at h
    · rw [decide_eq_true_eq] at h
      subst h
      exact ⟨s_cst pe_int rfl (fun ρ => by simp only [evE]) fun G => .int _, rfl, rfl⟩
    · cases h
  · split at h
    · rw [Bool.and_eq_true, decide_eq_true_eq, decide_eq_true_eq] at h
      obtain ⟨rfl, h⟩ := h
      exact ⟨s_cst pe_str rfl (fun ρ => by simp only [evE]) fun G => .str _ h, rfl, rfl⟩
    · cases h
  · rename_i i
    split at h
    · rename_i y p
      simp only [Bool.and_eq_true] at h
      obtain ⟨⟨h1, h2⟩, h3⟩ := h
      have h3 : dbg y = false := by
        cases q : dbg y with
        | false => rfl
        | true => rw [q] at h3; cases h3
      obtain ⟨d1, d2, _⟩ := dbg_ok h3
      refine ⟨PE.imp (pe_var (i := i) (by rw [c.hN]; exact nmB_ok h1) (c.vis h2) d1 d2) fun σ H Q h => ?_, rfl, rfl⟩
      obtain ⟨H0, G0, ρ, G, o, h⟩ := h
      cases e : ρ[i]? with
      | none => simp only [evE, e] at h; exact h.elim
      | some s =>
        cases s with
        | val d =>
          simp only [evE, e] at h
          obtain ⟨v, h1, h2⟩ := o.val i d e
          exact ⟨v, h1, h v H G (Gr.refl o.same) h2⟩
        | dic _ => simp only [evE, e] at h; exact h.elim
        | no => simp only [evE, e] at h; exact h.elim
        | own ds => simp only [evE, e] at h; exact h.elim
    · cases h
  · cases h
theorem h_app {Y : Cx} (c : CtH N sc Y) {i : Nat} {y : Str} {p apos cpos pos : Pos} {e : Expr} {x : Ex} (h1 : N[i]? = some y) (h2 : visB sc y = true) (h3 : dbg y = false) (hline : (apos.endLine == cpos.line) = true)
    (h : ckH N sc x e = true) : PS Y (.Expr (.Call (.Attribute (.Name y p) "append" apos) [e] [] cpos) pos) (TSx Y.K Y.mg L W (.app i x)) := by
  obtain ⟨he, hs, hns⟩ := ckH_ok (L := L) (W := W) c h
  obtain ⟨d1, d2, _⟩ := dbg_ok h3
  have hp : PE Y (.Name y p) (tPk i) := PE.imp (pe_var (i := i) (by rw [c.hN]; exact h1) (c.vis h2) d1 d2) fun σ H Q ⟨p, e, q⟩ => ⟨.ref p, e, q⟩
  have ha : PA Y [e] (TAx Y.K Y.mg L W (.cons x .nil)) := s_cons hns he s_nil
  refine PS.imp (ps_expr (pe_bm PySem.F.plainAttrs_list PySem.F.slot_list_append PySem.F.type_list_append mt_append hp ha rfl (few_ok (by simp [hns]) (by show 1 < 30; omega)) hline (star1 hns) rfl) rfl) fun D σ H h => ?_
  exact app_run hs h
/-- a suite of one statement -/
def ckHs (N : List Str) (sc : Scope) (x : Sxs) (s : List Stmt) : Bool := match s with
  | [.Return (some e) _] => (match x with
    | .cons (.ret x) .nil => ckH N sc x e
    | .cons (.frz _) (.cons (.ret x) .nil) => ckH N sc x e
    | _ => false)
  | [.Expr (.Call (.Attribute (.Name y _) nm apos) [e] [] cpos) _] => (match x with
    | .cons (.app i x) .nil => nmB N i y && visB sc y && !dbg y && decide (nm = "append") && (apos.endLine == cpos.line) && ckH N sc x e
    | _ => false)
  | _ => false
theorem ckHs_ok {Y : Cx} (c : CtH N sc Y) {x : Sxs} {s : List Stmt} (h : ckHs N sc x s = true) : PSs Y s (TSs Y.K Y.mg L W x) ∧ ∃ b r, s = b :: r := by
  unfold ckHs at h
  split at h
  · split at h
    · obtain ⟨he, hs, _⟩ := ckH_ok (L := L) (W := W) c h
      exact ⟨q_cons (q_ret he hs) q_nil, _, _, rfl⟩
    · obtain ⟨he, hs, _⟩ := ckH_ok (L := L) (W := W) c h
      exact ⟨q_frz (q_cons (q_ret he hs) q_nil), _, _, rfl⟩
    · cases h
  · split at h
    · simp only [Bool.and_eq_true, decide_eq_true_eq] at h
      obtain ⟨⟨⟨⟨⟨h1, h2⟩, h3⟩, h4⟩, h5⟩, h6⟩ := h
      subst h4
      exact ⟨q_cons (h_app c (nmB_ok h1) h2 (nb h3) h5 h6) q_nil, _, _, rfl⟩
    · cases h
  · cases h
theorem CtS.tr (c : CtS L k N sc W X) {W' : WX} {pn : List (Addr × Obj)} {xe : Value → Shared → Prop} (tk : Takes (X.tr pn xe) W') (po : PassesOwn (model X.prog X.w) X.A X.env xe) : CtS L k N sc W' (X.tr pn xe) where
  c := { hN := c.c.hN, nd := c.c.nd, calm := c.c.calm, room := c.c.room, hsc := c.c.hsc, kind := c.c.kind, fn := c.c.fn, takes := tk, subC := c.c.subC, subF := c.c.subF, fns := c.c.fns, fnT := c.c.fnT, con := c.c.con, blt := c.c.blt, tpc := c.c.tpc }
  po := po
  stk := c.stk
  frm := c.frm
  exc := c.exc
  exm := c.exm
  exi := c.exi
  wd := c.wd
theorem q_try (c : CtS L k N sc W X) {i : Nat} {x : Str} {np pos pos' : Pos} {body suite : List Stmt} {xb xh : Sxs} (hi : L.P.exc i = some x) (hg : glB sc x = true) (hd : dbg x = false)
    (hb : ∀ (W' : WX) (Y : Cx), CtS L k N sc W' Y → PSs Y body (TSs Y.K Y.mg L W' xb)) (hh : ckHs N sc xh suite = true) : PS X (.Try body [.ExceptHandler (some (.Name x np)) none suite pos'] [] [] pos) (TSx X.K X.mg L W (.tryo xb i xh)) := by
  obtain ⟨g, kp, ei, r⟩ := c.exc i x hi
  obtain ⟨_, b0, rst, rfl⟩ := ckHs_ok (L := L) (W := WF) (Y := X) ⟨c.c.hN, c.c.hsc⟩ hh
  refine PS.imp (L2.ps_try_only (c := .ref (L.ec i)) (tb := fun W' => TSs X.K X.mg L W' xb) (ts := fun _ _ _ => TSs X.K X.mg L W xh) (Wout := W) c.stk c.frm ⟨c.c.gl hg, (dbg_ok hd).1, .inl g⟩ c.c.takes
    (fun W' pn xe tk po => hb W' _ (c.tr tk po)) (fun a oe cls d pn _ _ => (ckHs_ok (Y := X.suite a ((a, oe) :: pn)) ⟨c.c.hN, c.c.hsc⟩ hh).1)) fun D σ H h => ?_
  obtain ⟨H0, G0, ρ, G, o, h⟩ := h
  simp only [evS] at h
  refine ⟨H0, G0, ρ, G, o, ?_⟩
  cases e : evSs L.U L.cl ρ xb with
  | nx ρ' => rw [e] at h; exact h
  | ret d => rw [e] at h; exact h
  | no => rw [e] at h; exact h
  | ex c' ρ' =>
    rw [e] at h
    dsimp only at h
    intro σ' H' G' o'
    refine ⟨subE c' i, c.exm c' i _ hi, fun hb a ha => ?_, fun hb => ?_⟩
    · rw [if_pos hb] at h
      exact ⟨H0, G0, ρ', G', o', h⟩
    · rw [if_neg (by rw [hb]; exact Bool.false_ne_true)] at h
      exact h σ' H' G' o'
end
end Bg

set_option Elab.async false
set_option linter.all false
set_option maxRecDepth 100000
set_option maxHeartbeats 4000000
/-! The def that tells an error's word, called within an except suite. -/
namespace Bg
open PySem PySem.Spec PyProof.Rows L2

/-- what is known of the error classes -/
structure Exs_ (K : PySem.W.Frag) (mg : Str → Option Value) (ec : Nat → Addr) : Prop where
  cls : ∀ c, ExcC K (ec c)
  kit : ∀ (c d : Nat), d < 6 → PySem.W.kitOne K (.ref (ec c)) (.ref (ec d)) = some (subE c d)
  val : ∀ c, PySem.W.kitOne K (.ref (ec c)) (.type "ValueError") = some true
theorem isiB_ok {e : Expr} {x : Str} (h : isiB e x = true) : ∃ p1 p2 p3 p4, e = .Call (.Name "isinstance" p1) [.Name "kept" p2, .Name x p3] [] p4 := by
  unfold isiB at h
  split at h
  · simp only [Bool.and_eq_true, decide_eq_true_eq] at h
    obtain ⟨⟨rfl, rfl⟩, rfl⟩ := h
    exact ⟨_, _, _, _, rfl⟩
  · cases h
section
variable {X : Cx}
theorem call_isP {p : Addr × Obj} {D : Addr} (hp : p ∈ X.pn) (C : ExcC X.K D) (hz : Zc (.ref D) none p.2) (hf : ∃ vs, p.2.data = .fields vs) : CallR X (.builtin "isinstance") (rIsE X.K D p.1) := by
  intro pins s σ H xs us Q I r h
  obtain ⟨c, cv, b, rfl, hcv, e, q⟩ := h
  obtain ⟨u1, u2, rfl, r1, r2⟩ := vals2 r
  cases r1
  cases hcv _ r2
  have hget := (I.pin p (List.mem_append_left _ hp)).1
  obtain ⟨vs, hv⟩ := hf
  have J : PySem.W.InstAt s.heap p.1 p.2 D none := by
    obtain ⟨pa, oc, od, oda, osl⟩ := p
    obtain ⟨h1, h2⟩ := hz
    dsimp only at h1 h2 hv hget ⊢
    subst h1 h2 hv
    exact ⟨hget, rfl, rfl, trivial⟩
  exact PySem.W.kia_one (PySem.W.handS_kitx_exc C.hg C.hk C.hs C.hd C.ha C.hn C.ht C.hm) I.kIn J e (fun z => nomatch z) fun tk => ⟨.bl b, H, I.kept (t' := tk) fun _ _ z => z, rfl, q⟩
/-- isinstance(kept, C) there -/
def tIsi (a : Addr) (b : Bool) : TE := fun σ H Q => σ[0]? = some (some (.ref a)) ∧ Q (.bl b) H
theorem pe_isX {p : Addr × Obj} {D C : Addr} {x : Str} {b : Bool} {e : Expr} (hN : X.N = (["kept", "kinds"] : List Str)) (hv : visB X.env.scope "kept" = true) (g1 : Gl X "isinstance") (b1 : X.mg "isinstance" = none) (g2 : Gl X x) (hx : dbg x = false) (m2 : X.mg x = some (.ref C))
    (hp : p ∈ X.pn) (hc : ExcC X.K D) (hz : Zc (.ref D) none p.2) (hf : ∃ vs, p.2.data = .fields vs) (hk : PySem.W.kitOne X.K (.ref D) (.ref C) = some b) (h : isiB e x = true) : PE X e (tIsi p.1 b) := by
  unfold isiB at h
  split at h
  · simp only [Bool.and_eq_true, decide_eq_true_eq] at h
    obtain ⟨⟨rfl, rfl⟩, rfl⟩ := h
    have hV : Vis X.env.scope "kept" := by
      unfold visB at hv
      unfold Vis
      split at hv
      · rename_i e; exact .inl e
      · rename_i e; exact .inr (.inl e)
      · rename_i e; exact .inr (.inr e)
      · cases hv
    refine PE.imp (pe_callB (call_isP hp hc hz hf) g1 b1 (by decide +kernel) (pa_cons (pe_var (i := 0) (by rw [hN]; rfl) hV) (pa_cons (pe_glob (v := .ref C) g2 m2 rfl (dbg_ok hx).1) pa_nil))) fun σ H Q ⟨q1, q2⟩ => ?_
    exact ⟨_, q1, .ref C, .ref C, b, rfl, fun u z => z, hk, q2⟩
  · cases h
theorem pe_isV {p : Addr × Obj} {D : Addr} {e : Expr} (hN : X.N = (["kept", "kinds"] : List Str)) (hv : visB X.env.scope "kept" = true) (g1 : Gl X "isinstance") (b1 : X.mg "isinstance" = none) (g2 : Gl X "ValueError") (m2 : X.mg "ValueError" = none)
    (hp : p ∈ X.pn) (hc : ExcC X.K D) (hz : Zc (.ref D) none p.2) (hf : ∃ vs, p.2.data = .fields vs) (hk : PySem.W.kitOne X.K (.ref D) (.type "ValueError") = some true) (h : isiB e "ValueError" = true) : PE X e (tIsi p.1 true) := by
  unfold isiB at h
  split at h
  · simp only [Bool.and_eq_true, decide_eq_true_eq] at h
    obtain ⟨⟨rfl, rfl⟩, rfl⟩ := h
    have hV : Vis X.env.scope "kept" := by
      unfold visB at hv
      unfold Vis
      split at hv
      · rename_i e; exact .inl e
      · rename_i e; exact .inr (.inl e)
      · rename_i e; exact .inr (.inr e)
      · cases hv
    refine PE.imp (pe_callB (call_isP hp hc hz hf) g1 b1 (by decide +kernel) (pa_cons (pe_var (i := 0) (by rw [hN]; rfl) hV) (pa_cons (pe_bltn (v := .ty "ValueError") g2 m2 (by decide +kernel) rfl) pa_nil))) fun σ H Q ⟨q1, q2⟩ => ?_
    exact ⟨_, q1, .ty "ValueError", .type "ValueError", true, rfl, fun u z => z, hk, q2⟩
  · cases h
/-- five truths: how often the error is of a kind, and where -/
def wl (c : Nat) : List Bool := [subE c 1, subE c 2, subE c 3, subE c 4, subE c 5]
theorem wl_cases (c : Nat) : (c = 1 ∨ c = 2 ∨ c = 3 ∨ c = 4 ∨ c = 5) ∨ (wl c = [false, false, false, false, false] ∧ wordOf c = "wrong") := by
  by_cases h : c = 1 ∨ c = 2 ∨ c = 3 ∨ c = 4 ∨ c = 5
  · exact .inl h
  · refine .inr ⟨?_, ?_⟩
    · unfold wl subE
      have h1 : c ≠ 1 := fun z => h (.inl z)
      have h2 : c ≠ 2 := fun z => h (.inr (.inl z))
      have h3 : c ≠ 3 := fun z => h (.inr (.inr (.inl z)))
      have h4 : c ≠ 4 := fun z => h (.inr (.inr (.inr (.inl z))))
      have h5 : c ≠ 5 := fun z => h (.inr (.inr (.inr (.inr z))))
      simp [h1, h2, h3, h4, h5]
    · unfold wordOf
      split <;> first | rfl | (exfalso; omega)
def wlV (c : Nat) : List V := (wl c).map V.bl
theorem RpA.ofBools {K : PySem.W.Frag} {mg : Str → Option Value} {G : Hp} : ∀ (ns : List Bool), RpA K mg G (ns.map V.bl) (ns.map .bool)
  | [] => .nil
  | n :: ns => .cons (.bl n) (RpA.ofBools ns)
def cntW (c : Nat) : Int := if c = 1 ∨ c = 2 ∨ c = 3 ∨ c = 4 ∨ c = 5 then 1 else 0
theorem cnt_ok (c : Nat) : mCountL (.list ((wl c).map .bool)) [.bool true] = some (.int (cntW c)) := by
  rcases wl_cases c with h | ⟨h, _⟩
  · rcases h with rfl | rfl | rfl | rfl | rfl <;> rfl
  · have q : cntW c = 0 := by
      unfold cntW
      refine if_neg fun z => ?_
      rcases z with rfl | rfl | rfl | rfl | rfl <;> (revert h; decide)
    rw [q, h]
    rfl
theorem idx_ok (c : Nat) (h : c = 1 ∨ c = 2 ∨ c = 3 ∨ c = 4 ∨ c = 5) : mIndexL (.list ((wl c).map .bool)) [.bool true] = some (.int ((c : Int) - 1)) := by
  rcases h with rfl | rfl | rfl | rfl | rfl <;> rfl
def wordsV : List V := [.str "no row", .str "no code", .str "doubtful", .str "closed", .str "no text"]
theorem words_at (c : Nat) (h : c = 1 ∨ c = 2 ∨ c = 3 ∨ c = 4 ∨ c = 5) : atI wordsV ((c : Int) - 1) = some (.str (wordOf c)) := by
  rcases h with rfl | rfl | rfl | rfl | rfl <;> rfl
theorem word_tail {Y : Cx} {a l3 : Addr} {c : Nat} {H H4 : Hp} {Q : VK} (hQ : ∀ H', Same H H' → Q (.str (wordOf c)) H') (s4 : Same H H4) (l4 : H4 l3 = some (.lst (wlV c))) :
    tSeq (tIfS (tOr (tTest (tOp rNe (tBM Y.K "list" (rM Y.K Y.mg mCountL) (tVar 1) (tCons (tC (.bl true)) tNil)) (tC (.int 1)))) (tNot (tB (tIsi a true)))) (tRet (tC (.str "wrong"))) tNext)
      (tRet (tOp (rIxT Y.K) (tTup (tCons (tC (.str "no row")) (tCons (tC (.str "no code")) (tCons (tC (.str "doubtful")) (tCons (tC (.str "closed")) (tCons (tC (.str "no text")) tNil)))))) (tBM Y.K "list" (rM Y.K Y.mg mIndexL) (tVar 1) (tCons (tC (.bl true)) tNil))))
      { nx := fun _ H' => Q .non H', rt := Q } [some (.ref a), some (.ref l3)] H4 := by
  have e0 : Same (fun _ => none : Hp) H4 := fun _ _ z => by cases z
  have rl : Rs Y.K Y.mg (fun _ => none) H4 (.ref l3) (.list ((wl c).map .bool)) := .inr ⟨l3, _, _, rfl, rfl, l4, by show 5 ≤ 1000000; omega, RpA.ofBools _⟩
  refine ⟨.ref l3, rfl, .inl ⟨rfl, _, SqL.of l4⟩, _, _, _, _, e0, rl, .cons (.inl (.bl true)) .nil, cnt_ok c, fun v H5 G5 g5 r5 => ?_⟩
  cases r5
  refine ⟨rfl, _, rfl, ?_⟩
  by_cases h : c = 1 ∨ c = 2 ∨ c = 3 ∨ c = 4 ∨ c = 5
  · have q : cntW c = 1 := if_pos h
    have q2 : (!decide (V.int (cntW c) = V.int 1)) = false := by rw [q]; decide
    dsimp only
    rw [if_neg (by rw [q2]; exact Bool.false_ne_true)]
    refine ⟨rfl, true, rfl, ?_⟩
    dsimp only
    rw [if_neg (by decide)]
    refine ⟨by decide, fun l5 n5 => ?_⟩
    have l6 : upd H5 l5 (.tup wordsV) l3 = some (.lst (wlV c)) := by rw [upd_ne (ne_of_none (g5.h _ _ l4) n5)]; exact g5.h _ _ l4
    have e1 : Same (fun _ => none : Hp) (upd H5 l5 (.tup wordsV)) := fun _ _ z => by cases z
    have rl2 : Rs Y.K Y.mg (fun _ => none) (upd H5 l5 (.tup wordsV)) (.ref l3) (.list ((wl c).map .bool)) := .inr ⟨l3, _, _, rfl, rfl, l6, by show 5 ≤ 1000000; omega, RpA.ofBools _⟩
    refine ⟨.ref l3, rfl, .inl ⟨rfl, _, SqL.of l6⟩, _, _, _, _, e1, rl2, .cons (.inl (.bl true)) .nil, idx_ok c h, fun v H7 G7 g7 r7 => ?_⟩
    cases r7
    refine ⟨l5, wordsV, _, _, rfl, rfl, SqT.of (g7.h _ _ upd_same), words_at c h, hQ _ ?_⟩
    exact (s4.trans g5.h).trans ((same_new n5).trans g7.h)
  · have q : cntW c = 0 := if_neg h
    have q2 : (!decide (V.int (cntW c) = V.int 1)) = true := by rw [q]; decide
    dsimp only
    rw [if_pos q2]
    refine iteT ?_
    rcases wl_cases c with z | ⟨_, z⟩
    · exact absurd z h
    · rw [z] at hQ
      exact hQ _ (s4.trans g5.h)
/-- the body, by the rules -/
theorem word_body {Y : Cx} {p : Addr × Obj} {c : Nat} {ec : Nat → Addr} {sc : Scope} {b : List Stmt} (hN : Y.N = (["kept", "kinds"] : List Str)) (hfn : ∀ x, Y.fn x = true) (hsc : Y.env.scope = sc) (hu : Y.A.units + 100 < cLine) (E : Exs_ Y.K Y.mg ec)
    (hv : visB sc "kept" = true) (hl : sc.names.lookup ("kinds" : Str) = some .local) (gl : ∀ x ∈ (["isinstance", "NoRow", "NoCode", "Doubtful", "Closed", "NoText", "ValueError"] : List Str), glB sc x = true)
    (b1 : Y.mg "isinstance" = none) (b2 : Y.mg "ValueError" = none) (m1 : Y.mg "NoRow" = some (.ref (ec 1))) (m2 : Y.mg "NoCode" = some (.ref (ec 2))) (m3 : Y.mg "Doubtful" = some (.ref (ec 3))) (m4 : Y.mg "Closed" = some (.ref (ec 4))) (m5 : Y.mg "NoText" = some (.ref (ec 5)))
    (hp : p ∈ Y.pn) (hz : Zc (.ref (ec c)) none p.2) (hf : ∃ vs, p.2.data = .fields vs) (ok : wordB b = true) {H : Hp} {Q : VK} (hQ : ∀ H', Same H H' → Q (.str (wordOf c)) H') :
    ∃ t, PSs Y b t ∧ t { nx := fun _ H' => Q .non H', rt := Q } [some (.ref p.1), none] H := by
  unfold wordB at ok
  split at ok
  · simp only [Bool.and_eq_true, decide_eq_true_eq, List.all_cons, List.all_nil, Bool.and_true] at ok
    obtain ⟨⟨⟨⟨⟨⟨⟨⟨⟨⟨⟨⟨⟨⟨⟨⟨⟨⟨⟨rfl, rfl, rfl, rfl, rfl, rfl⟩, rfl⟩, rfl⟩, rfl⟩, l1⟩, l2⟩, l3⟩, rfl⟩, rfl⟩, rfl⟩, rfl⟩, rfl⟩, rfl⟩, i1⟩, i2⟩, i3⟩, i4⟩, i5⟩, i6⟩ := ok
    obtain ⟨_, _, _, _, rfl⟩ := isiB_ok i1
    obtain ⟨_, _, _, _, rfl⟩ := isiB_ok i2
    obtain ⟨_, _, _, _, rfl⟩ := isiB_ok i3
    obtain ⟨_, _, _, _, rfl⟩ := isiB_ok i4
    obtain ⟨_, _, _, _, rfl⟩ := isiB_ok i5
    obtain ⟨_, _, _, _, rfl⟩ := isiB_ok i6
    have G : ∀ x ∈ (["isinstance", "NoRow", "NoCode", "Doubtful", "Closed", "NoText", "ValueError"] : List Str), Gl Y x := fun x hx => by
      have q := gl x hx
      unfold Gl
      show Y.env.scope.names.lookup x = _
      rw [hsc]
      unfold glB at q
      split at q
      · rename_i e; exact e
      · cases q
    have hv' : visB Y.env.scope "kept" = true := by rw [hsc]; exact hv
    have hl' : Y.env.scope.names.lookup ("kinds" : Str) = some .local := by rw [hsc]; exact hl
    have nd : Y.N.Nodup := by rw [hN]; decide
    have N1 : Y.N[1]? = some ("kinds" : Str) := by rw [hN]; rfl
    have P1 := pe_isX hN hv' (G _ (by decide)) b1 (G "NoRow" (by decide)) (by decide +kernel) m1 hp (E.cls c) hz hf (E.kit c 1 (by omega)) i1
    have P2 := pe_isX hN hv' (G _ (by decide)) b1 (G "NoCode" (by decide)) (by decide +kernel) m2 hp (E.cls c) hz hf (E.kit c 2 (by omega)) i2
    have P3 := pe_isX hN hv' (G _ (by decide)) b1 (G "Doubtful" (by decide)) (by decide +kernel) m3 hp (E.cls c) hz hf (E.kit c 3 (by omega)) i3
    have P4 := pe_isX hN hv' (G _ (by decide)) b1 (G "Closed" (by decide)) (by decide +kernel) m4 hp (E.cls c) hz hf (E.kit c 4 (by omega)) i4
    have P5 := pe_isX hN hv' (G _ (by decide)) b1 (G "NoText" (by decide)) (by decide +kernel) m5 hp (E.cls c) hz hf (E.kit c 5 (by omega)) i5
    have P6 := pe_isV hN hv' (G _ (by decide)) b1 (G "ValueError" (by decide)) b2 hp (E.cls c) hz hf (E.val c) i6
    have K1 : ∀ q, PE Y (.Name "kinds" q) (tVar 1) := fun q => pe_var (i := 1) N1 (.inl hl')
    refine ⟨_, pss_cons (ps_set (i := 1) nd N1 (.inl hl') (pe_lst (pa_cons P1 (pa_cons P2 pa_nil))) (sw_none rfl) (.inl (hfn _)))
      (pss_cons (ps_set (i := 1) nd N1 (.inl hl') (pe_op op_cat (K1 _) (pe_lst (pa_cons P3 (pa_cons P4 pa_nil)))) (sw_none rfl) (.inl (hfn _)))
      (pss_cons (ps_expr (pe_bm PySem.F.plainAttrs_list PySem.F.slot_list_append PySem.F.type_list_append mt_append (K1 _) (pa_cons P5 pa_nil) rfl (by rfl) l1) rfl)
      (pss_cons (ps_if (PW.pt (pw_or (pt_cmpR op_ne (pe_bm PySem.F.plainAttrs_list PySem.F.slot_list_count PySem.F.type_list_count (mt_Count_list hu) (K1 _) (pa_cons pe_bl pa_nil) rfl (by rfl) l2) pe_int (nomark _)) (pw_or1 (pt_not (pt_val P6))))) (pss_one (ps_ret pe_str)) pss_nil)
      (pss_one (ps_ret (pe_ix ix_tup (pe_tup (pa_cons pe_str (pa_cons pe_str (pa_cons pe_str (pa_cons pe_str (pa_cons pe_str pa_nil)))))) (pe_bm PySem.F.plainAttrs_list PySem.F.slot_list_index PySem.F.type_list_index (mt_Index_list hu) (K1 _) (pa_cons pe_bl pa_nil) rfl (by rfl) l3) (fun _ _ => rfl))))))), ?_⟩
    have z2 : (2 : Nat) ≤ sizeLine := by decide
    have z4 : (4 : Nat) < sizeLine := by decide
    refine ⟨rfl, rfl, z2, fun l1 n1 => ?_⟩
    refine ⟨.ref l1, rfl, rfl, rfl, z2, fun l2 n2 => ⟨l1, l2, [.bl (subE c 1), .bl (subE c 2)], [.bl (subE c 3), .bl (subE c 4)], rfl, rfl, by rw [upd_ne (fun z => by rw [z, upd_same] at n2; cases n2)]; exact upd_same, upd_same, Nat.le_of_lt z4, fun l3 n3 => ?_⟩⟩
    refine ⟨.ref l3, rfl, .inl ⟨rfl, _, SqL.of upd_same⟩, rfl, l3, _, _, rfl, rfl, upd_same, z4, ?_⟩
    refine word_tail hQ (fun a u h => ?_) upd_same
    have h3 := same_new (o := HO.lst [.bl (subE c 3), .bl (subE c 4)]) n2 a u (same_new (o := HO.lst [.bl (subE c 1), .bl (subE c 2)]) n1 a u h)
    have : a ≠ l3 := ne_of_none h3 n3
    rw [upd_ne this, upd_ne this]
    exact h3
  · cases ok
end
/-! ### the call of it -/
/-- what the text holds of this def -/
structure WordAt (K : PySem.W.Frag) (mg : Str → Option Value) (ec : Nat → Addr) (x : Str) (fa : Addr) : Prop where
  ex : ∃ st data, wordOk st = true ∧ mg x = some (.ref fa) ∧ PySem.W.keepIn K (.ref fa) = true ∧ FunD K x x (defArgs st) (defBody st) (defScope st) [] [] fa data ∧ ∀ (s : Shared) (u : Value), BindsTo s data ⟨[u], []⟩ [("kept", u)]
  es : Exs_ K mg ec
  b1 : mg "isinstance" = none
  b2 : mg "ValueError" = none
  m1 : mg "NoRow" = some (.ref (ec 1))
  m2 : mg "NoCode" = some (.ref (ec 2))
  m3 : mg "Doubtful" = some (.ref (ec 3))
  m4 : mg "Closed" = some (.ref (ec 4))
  m5 : mg "NoText" = some (.ref (ec 5))
section
variable {X : Cx}
theorem run_word {pins : List (Addr × Obj)} {σ : L2.St} {H : Hp} {s : Shared} {Q : VK} {p : Addr × Obj} {ec : Nat → Addr} {x : Str} {fa : Addr} {c : Nat} (T : WordAt X.K X.mg ec x fa) (hp : p ∈ X.pn) (hd : X.A.depth < recursionLimit) (hu : X.A.units + 200 < cLine)
    (hz : Zc (.ref (ec c)) none p.2) (hf : ∃ vs, p.2.data = .fields vs) (I : Inv X pins σ H s) (hQ : ∀ H', Same H H' → Q (.str (wordOf c)) H') : wpAny (model X.prog X.w) X.A (call (.ref fa) [.ref p.1]) (EP X pins σ Q) X.xe s := by
  obtain ⟨st, data, ok, hm, kp, F, hb⟩ := T.ex
  obtain ⟨oc, od, dV, kV, doc, pm, an, cdv, ct, osl, rfl, lk, hcd, _, _⟩ := F.ex
  simp only [wordOk, Bool.and_eq_true] at ok
  obtain ⟨⟨_, k2⟩, k3⟩ := ok
  simp only [wordOk.scW, Bool.and_eq_true, decide_eq_true_eq] at k2
  obtain ⟨⟨⟨⟨⟨⟨c1, c2⟩, c3⟩, c4⟩, c5⟩, c6⟩, c7⟩ := k2
  have hloc : (defScope st).names.lookup ("kept" : Str) = some .local ∨ (defScope st).names.lookup ("kept" : Str) = some .cell := by
    unfold locB at c4
    split at c4
    · rename_i e; exact .inl e
    · rename_i e; exact .inr e
    · cases c4
  have S : FnScope (["kept", "kinds"] : List Str) ["kept"] (defScope st) := by
    refine ⟨c1, nb c2, nb c3, by decide, rfl, fun y hy => ?_, fun y hy => ?_⟩
    · have : y = "kept" := by simpa using hy
      rw [this]
      exact hloc
    · exact of_decide_eq_true (List.all_eq_true.mp c6 y hy)
  have hvis : visB (defScope st) "kept" = true := by
    unfold visB
    rcases hloc with q | q <;> simp only [q]
  have P1 := I.pin p (List.mem_append_left _ hp)
  have hpin : L2H.PinOk X.stack H s p := ⟨P1.1, P1.2.1, fun hm => (List.mem_cons.mp (I.stkSub p.1 hm)).elim P1.2.2.1 P1.2.2.2.1, P1.2.2.2.2⟩
  have e0 := I.env0
  have KX : X.K.In s.heap := I.kIn
  have lim : s.heap.NoLimit := e0.mod.nolimit.keeps fun b o e => (e0.bs b o e).1
  have hkind : ∀ y ∈ (["kept"] : List Str).zip [Value.ref p.1], (defScope st).names.lookup y.1 = some .local ∨ ((defScope st).names.lookup y.1 = some .cell ∧ ((cellsFrom (s.heap.objs.size + 1) (defScope st).names []).lookup y.1).isSome = true) := fun y hy => by
    have : y = (("kept" : Str), Value.ref p.1) := by simpa using hy
    rw [this]
    rcases hloc with q | q
    · exact .inl q
    · exact .inr ⟨q, PySem.W.cellsFrom_some _ _ _ (.inl q)⟩
  have main : codeAny (model X.prog X.w) X.A (.call (.ref fa) ⟨[.ref p.1], []⟩) (CR CX0 X.stack X.prog X.w H s Q fun _ _ _ => False) s := by
    refine codeAny_call_function hd (KX _ _ lk) rfl S.co S.gen rfl (PySem.W.codeRec_of KX hcd) (hb s (.ref p.1) _ _ _ _ ?_)
    refine wpAny_newFunctionEnv_cells S.kind hkind fun env he s1 x => ?_
    subst he
    refine ⟨lim.keeps x.toInCall.keep, codeAny_func ?_⟩
    have J := L2H.inv_startH (CX := CX0) (E := fun _ _ _ => False) (us := [.ref p.1]) (vs := [.ref p.1]) S hpin e0 rfl (.cons rfl .nil) x
    obtain ⟨t, ht, hq⟩ := word_body (Y := L2H.cxH CX0 X.prog X.w X.K X.mg X.base (["kept", "kinds"] : List Str) _ (defScope st) fa cdv X.A X.stack s H (fun _ _ _ => False) p) (p := p) (c := c) (ec := ec) rfl (fun _ => rfl) rfl (by show X.A.units + 3 + 100 < cLine; omega) T.es
      hvis c5 (fun x hx => List.all_eq_true.mp c7 x hx) T.b1 T.b2 T.m1 T.m2 T.m3 T.m4 T.m5 (List.mem_singleton.mpr rfl) hz hf k3 hQ
    refine wpAny_mono (ht.run [] s1 _ H _ J hq) (fun fl s' hs => ?_) fun e s' hs => hs
    cases fl with
    | ret u =>
      obtain ⟨v, σ', H', J', rv, q⟩ := hs
      exact ⟨v, H', J'.os, J'.bare, J'.base, J'.hok, rv, q⟩
    | next =>
      obtain ⟨σ', H', J', q⟩ := hs
      exact ⟨.non, H', J'.os, J'.bare, J'.base, J'.hok, rfl, q⟩
    | brk => obtain ⟨_, _, _, q⟩ := hs; exact q.elim
    | cont => obtain ⟨_, _, _, q⟩ := hs; exact q.elim
  refine wpAny_call (codeAny_mono main fun r s' hq => ?_)
  cases r with
  | error e => exact hq.elim
  | ok fl =>
    cases fl with
    | ret u => exact I.after hq
    | next => exact hq.elim
    | brk => exact hq.elim
    | cont => exact hq.elim
end
end Bg

set_option Elab.async false
set_option linter.all false
set_option maxRecDepth 100000
set_option maxHeartbeats 4000000
/-! except .. as: the error's word, what it is; two clauses. -/
namespace Bg
open PySem PySem.Spec PyProof.Rows L2
section
variable {L : Lg} {k : Nat} {N : List Str} {sc : Scope} {W : WX} {X : Cx}
theorem q_try2 (c : CtS L k N sc W X) {i i2 : Nat} {x x2 : Str} {np np2 pos pos' pos2 : Pos} {body suite suite2 : List Stmt} {xb xh xh2 : Sxs} (hi : L.P.exc i = some x) (hg : glB sc x = true) (hd : dbg x = false) (hi2 : L.P.exc i2 = some x2) (hg2 : glB sc x2 = true) (hd2 : dbg x2 = false)
    (hb : ∀ (W' : WX) (Y : Cx), CtS L k N sc W' Y → PSs Y body (TSs Y.K Y.mg L W' xb)) (hh : ckHs N sc xh suite = true) (hh2 : ckHs N sc xh2 suite2 = true) :
    PS X (.Try body [.ExceptHandler (some (.Name x np)) none suite pos', .ExceptHandler (some (.Name x2 np2)) none suite2 pos2] [] [] pos) (TSx X.K X.mg L W (.try2 xb i xh i2 xh2)) := by
  obtain ⟨g, kp, ei, r⟩ := c.exc i x hi
  obtain ⟨g2, kp2, ei2, r2⟩ := c.exc i2 x2 hi2
  obtain ⟨_, b0, rst, rfl⟩ := ckHs_ok (L := L) (W := WF) (Y := X) ⟨c.c.hN, c.c.hsc⟩ hh
  obtain ⟨_, b2, rst2, rfl⟩ := ckHs_ok (L := L) (W := WF) (Y := X) ⟨c.c.hN, c.c.hsc⟩ hh2
  refine PS.imp (L2.ps_try_many (tb := fun W' => TSs X.K X.mg L W' xb) (Wout := W) c.stk c.frm c.c.takes (fun W' pn xe tk po => hb W' _ (c.tr tk po))
    (.cons (c := .ref (L.ec i)) (ts := fun _ _ _ => TSs X.K X.mg L W xh) ⟨c.c.gl hg, (dbg_ok hd).1, .inl g⟩ (fun a oe cls d pn _ _ => (ckHs_ok (Y := X.suite a ((a, oe) :: pn)) ⟨c.c.hN, c.c.hsc⟩ hh).1)
    (.cons (c := .ref (L.ec i2)) (ts := fun _ _ _ => TSs X.K X.mg L W xh2) ⟨c.c.gl hg2, (dbg_ok hd2).1, .inl g2⟩ (fun a oe cls d pn _ _ => (ckHs_ok (Y := X.suite a ((a, oe) :: pn)) ⟨c.c.hN, c.c.hsc⟩ hh2).1) .nil))) fun D σ H h => ?_
  obtain ⟨H0, G0, ρ, G, o, h⟩ := h
  simp only [evS] at h
  refine ⟨H0, G0, ρ, G, o, ?_⟩
  cases e : evSs L.U L.cl ρ xb with
  | nx ρ' => rw [e] at h; exact h
  | ret d => rw [e] at h; exact h
  | no => rw [e] at h; exact h
  | ex c' ρ' =>
    rw [e] at h
    dsimp only at h
    intro σ' H' G' o'
    refine ⟨subE c' i, c.exm c' i _ hi, fun hb a ha => ?_, fun hb => ?_⟩
    · rw [if_pos hb] at h
      exact ⟨H0, G0, ρ', G', o', h⟩
    · rw [if_neg (by rw [hb]; exact Bool.false_ne_true)] at h
      refine ⟨subE c' i2, c.exm c' i2 _ hi2, fun hb a ha => ?_, fun hb => ?_⟩
      · rw [if_pos hb] at h
        exact ⟨H0, G0, ρ', G', o', h⟩
      · rw [if_neg (by rw [hb]; exact Bool.false_ne_true)] at h
        exact h σ' H' G' o'
/-- the class of the error that is held, and its slot -/
def tHeld (L : Lg) (i : Nat) (f : Nat → V) (a : Addr) (cls : Value) (d : Option Addr) : TE := fun σ H Q => ∃ c σ0, cls = .ref (L.ec c) ∧ d = none ∧ σ = List.set σ0 i (some (.ref a)) ∧ ∀ H', Same H H' → Q (f c) H'
theorem held_run (c : CtS L k N sc W X) {i j : Nat} {x n : Str} {np pos pos' rp : Pos} {body : List Stmt} {e : Expr} {xb : Sxs} {f : Nat → V} {g : Nat → D} {xs : Sx} (hx : L.P.exc i = some x) (hg : glB sc x = true) (hd : dbg x = false) (hj : N[j]? = some n) (hl : sc.names.lookup n = some .local)
    (hfg : ∀ G c, Rp X.K X.mg G (f c) (g c)) (hev : ∀ ρ, evS L.U L.cl ρ xs = match evSs L.U L.cl ρ xb with | .ex c ρ' => if subE c i = true then .ret (g c) else .ex c ρ' | o => o)
    (hb : ∀ (W' : WX) (Y : Cx), CtS L k N sc W' Y → PSs Y body (TSs Y.K Y.mg L W' xb))
    (he : ∀ (a : Addr) (oe : Obj) (cls : Value) (d : Option Addr) (pn : List (Addr × Obj)), Zc cls d oe → (∃ vs, oe.data = .fields vs) → PE (X.suite a ((a, oe) :: pn)) e (tHeld L j f a cls d)) :
    PS X (.Try body [.ExceptHandler (some (.Name x np)) (some n) [.Return (some e) rp] pos'] [] [] pos) (TSx X.K X.mg L W xs) := by
  obtain ⟨gx, kp, ei, r⟩ := c.exc i x hx
  refine PS.imp (L2.ps_try_as (i := j) (c := .ref (L.ec i)) (tb := fun W' => TSs X.K X.mg L W' xb) (ts := fun a cls d => tRet (tHeld L j f a cls d)) (Wout := W) c.stk c.frm (by rw [c.c.hN]; exact c.c.nd) (by rw [c.c.hN]; exact hj) (by show X.env.scope.names.lookup n = _; rw [c.c.hsc]; exact hl) ⟨c.c.gl hg, (dbg_ok hd).1, .inl gx⟩ c.c.takes
    (fun W' pn xe tk po => hb W' _ (c.tr tk po)) (fun a oe cls d pn hz hf => pss_one (ps_ret (he a oe cls d pn hz hf)))) fun D σ H h => ?_
  obtain ⟨H0, G0, ρ, G, o, h⟩ := h
  rw [hev] at h
  refine ⟨H0, G0, ρ, G, o, ?_⟩
  cases e : evSs L.U L.cl ρ xb with
  | nx ρ' => rw [e] at h; exact h
  | ret d => rw [e] at h; exact h
  | no => rw [e] at h; exact h
  | ex c' ρ' =>
    rw [e] at h
    dsimp only at h
    intro σ' H' G' o'
    refine ⟨subE c' i, c.exm c' i _ hx, fun hb a ha => ?_, fun hb => ?_⟩
    · rw [if_pos hb] at h
      refine ⟨c', σ', rfl, rfl, rfl, fun H2 s2 => ?_⟩
      exact h _ H2 G' (o'.base.trans ⟨s2, Same.refl _, fun _ h _ => h, o'.same.trans s2⟩) (hfg _ _)
    · rw [if_neg (by rw [hb]; exact Bool.false_ne_true)] at h
      exact h σ' H' G' o'
theorem set_at {Y : Cx} {pins : List (Addr × Obj)} {σ σ0 : L2.St} {H : Hp} {s : Shared} {j : Nat} {n : Str} {v : V} (I : Inv Y pins σ H s) (hN : Y.N = N) (hj : N[j]? = some n) (e : σ = List.set σ0 j (some v)) : σ[j]? = some (some v) := by
  have h1 : j < N.length := (List.getElem?_eq_some_iff.mp hj).1
  have h2 := I.len
  rw [hN] at h2
  rw [e] at h2 ⊢
  rw [List.length_set] at h2
  exact List.getElem?_set_self (by omega)
theorem q_tryw (c : CtS L k N sc W X) {i j : Nat} {x n fx : Str} {np pos pos' rp fp ap cp : Pos} {st : Stmt} {body : List Stmt} {xb : Sxs} (hx : L.P.exc i = some x) (hg : glB sc x = true) (hd : dbg x = false) (hj : N[j]? = some n) (hl : sc.names.lookup n = some .local) (hdn : dbg n = false)
    (hw : (fx, st) ∈ L.P.ws) (hgf : glB sc fx = true) (hdf : dbg fx = false) (h1 : L.P.exc 1 = some "NoRow") (h2 : L.P.exc 2 = some "NoCode") (h3 : L.P.exc 3 = some "Doubtful") (h4 : L.P.exc 4 = some "Closed") (h5 : L.P.exc 5 = some "NoText") (h0 : L.P.exc 0 = some "BarError")
    (hb : ∀ (W' : WX) (Y : Cx), CtS L k N sc W' Y → PSs Y body (TSs Y.K Y.mg L W' xb)) :
    PS X (.Try body [.ExceptHandler (some (.Name x np)) (some n) [.Return (some (.Call (.Name fx fp) [.Name n ap] [] cp)) rp] pos'] [] [] pos) (TSx X.K X.mg L W (.tryw xb i j)) := by
  refine held_run c (f := fun c => .str (wordOf c)) (g := fun c => .str (wordOf c)) hx hg hd hj hl (fun G c => .str _ (by unfold wordOf; split <;> decide)) (fun ρ => by simp only [evS] <;> cases evSs L.U L.cl ρ xb <;> rfl) hb fun a oe cls d pn hz hf => ?_
  obtain ⟨fa, data, w1, w2, w3, w4, w5⟩ := c.wd _ hw
  refine ⟨fun pins s σ H Q I h => ?_⟩
  obtain ⟨c', σ0, rfl, rfl, e3, hq⟩ := h
  have hloc : Vis (X.suite a ((a, oe) :: pn)).env.scope n := .inl (by show X.env.scope.names.lookup n = _; rw [c.c.hsc]; exact hl)
  have hgl : Gl (X.suite a ((a, oe) :: pn)) fx := c.c.gl hgf
  refine wpAny_Call_Name_kw (ld_glob I hgl w2 ?_ (dbg_ok hdf).1)
  have hs := set_at I c.c.hN hj e3
  refine PySem.W.callWith_K (h₀ := X.base) I.ok.mod.kin w3 (thn ((pa_cons (pe_var (X := X.suite a ((a, oe) :: pn)) (i := j) (pos := ap) (by show X.N[j]? = _; rw [c.c.hN]; exact hj) hloc (dbg_ok hdn).1 (dbg_ok hdn).2.1) pa_nil).run cp pins s σ H (fun vs H1 => vs = [.ref a] ∧ H1 = H) I ⟨_, hs, rfl, rfl⟩) fun us s1 ⟨vs, H1, I1, r, q⟩ => ⟨I1.kIn, ?_⟩) (star1 rfl) (stars rfl cp)
  obtain ⟨rfl, rfl⟩ := q
  cases r with
  | cons r0 rr =>
    cases rr
    cases r0
    have T : WordAt X.K X.mg L.ec fx fa :=
      { ex := ⟨st, data, w1, w2, w3, w4, w5⟩
        es := { cls := fun c' => (c.exi c' 1 _ h1).1
                kit := fun c' d hd => by
                  match d, hd with
                  | 0, _ => exact (c.exi c' 0 _ h0).2.1
                  | 1, _ => exact (c.exi c' 1 _ h1).2.1
                  | 2, _ => exact (c.exi c' 2 _ h2).2.1
                  | 3, _ => exact (c.exi c' 3 _ h3).2.1
                  | 4, _ => exact (c.exi c' 4 _ h4).2.1
                  | 5, _ => exact (c.exi c' 5 _ h5).2.1
                val := fun c' => (c.exi c' 1 _ h1).2.2 }
        b1 := c.c.blt _ (by decide)
        b2 := c.c.blt _ (by decide)
        m1 := (c.exc 1 _ h1).1
        m2 := (c.exc 2 _ h2).1
        m3 := (c.exc 3 _ h3).1
        m4 := (c.exc 4 _ h4).1
        m5 := (c.exc 5 _ h5).1 }
    exact run_word (X := X.suite a ((a, oe) :: pn)) (p := (a, oe)) (c := c') T List.mem_cons_self (by have := c.c.room.dp; show X.A.depth < _; omega) (by have := c.c.room.un; show X.A.units + 200 < _; omega) hz hf I1 hq
/-- isinstance(n, D) and isinstance(n, ValueError) -/
theorem q_tryi (c : CtS L k N sc W X) {i j d : Nat} {x n y : Str} {np pos pos' rp p1 p2 p3 p4 p5 p6 p7 p8 p9 : Pos} {body : List Stmt} {xb : Sxs} (hx : L.P.exc i = some x) (hg : glB sc x = true) (hd : dbg x = false) (hj : N[j]? = some n) (hl : sc.names.lookup n = some .local) (hdn : dbg n = false)
    (hy : L.P.exc d = some y) (hgy : glB sc y = true) (hdy : dbg y = false) (hgi : glB sc "isinstance" = true) (hgv : glB sc "ValueError" = true)
    (hb : ∀ (W' : WX) (Y : Cx), CtS L k N sc W' Y → PSs Y body (TSs Y.K Y.mg L W' xb)) :
    PS X (.Try body [.ExceptHandler (some (.Name x np)) (some n) [.Return (some (.BoolOp .And [.Call (.Name "isinstance" p1) [.Name n p2, .Name y p3] [] p4, .Call (.Name "isinstance" p5) [.Name n p6, .Name "ValueError" p7] [] p8] p9)) rp] pos'] [] [] pos) (TSx X.K X.mg L W (.tryi xb i j d)) := by
  refine held_run c (f := fun c => .bl (subE c d)) (g := fun c => .bool (subE c d)) hx hg hd hj hl (fun G c => .bl _) (fun ρ => by simp only [evS] <;> cases evSs L.U L.cl ρ xb <;> rfl) hb fun a oe cls dd pn hz hf => ?_
  refine ⟨fun pins s σ H Q I h => ?_⟩
  obtain ⟨c', σ0, rfl, rfl, e3, hq⟩ := h
  obtain ⟨x1, x2, x3⟩ := c.exi c' d _ hy
  obtain ⟨gy, _⟩ := c.exc d y hy
  have hloc : Vis (X.suite a ((a, oe) :: pn)).env.scope n := .inl (by show X.env.scope.names.lookup n = _; rw [c.c.hsc]; exact hl)
  have hgi' : Gl (X.suite a ((a, oe) :: pn)) "isinstance" := c.c.gl hgi
  have hs := set_at I c.c.hN hj e3
  have hv : ∀ q, PE (X.suite a ((a, oe) :: pn)) (.Name n q) (tVar j) := fun q => pe_var (by show X.N[j]? = _; rw [c.c.hN]; exact hj) hloc (dbg_ok hdn).1 (dbg_ok hdn).2.1
  have cr := call_isP (X := X.suite a ((a, oe) :: pn)) (p := (a, oe)) (D := L.ec c') List.mem_cons_self x1 hz hf
  have P1 : PE (X.suite a ((a, oe) :: pn)) (.Call (.Name "isinstance" p1) [.Name n p2, .Name y p3] [] p4) _ := pe_callB cr hgi' (c.c.blt _ (by decide)) (by decide +kernel) (pa_cons (hv _) (pa_cons (pe_glob (v := .ref (L.ec d)) (c.c.gl hgy) gy rfl (dbg_ok hdy).1) pa_nil))
  have P2 : PE (X.suite a ((a, oe) :: pn)) (.Call (.Name "isinstance" p5) [.Name n p6, .Name "ValueError" p7] [] p8) _ := pe_callB cr hgi' (c.c.blt _ (by decide)) (by decide +kernel) (pa_cons (hv _) (pa_cons (pe_bltn (v := .ty "ValueError") (c.c.gl hgv) (c.c.blt _ (by decide)) (by decide +kernel) rfl) pa_nil))
  refine (pe_and P1 (pe_one P2)).run pins s σ H Q I ?_
  refine ⟨_, hs, .ref (L.ec d), .ref (L.ec d), subE c' d, rfl, fun u z => z, x2, subE c' d, rfl, ?_⟩
  have hq' : Q (.bl (subE c' d)) H := hq H (Same.refl _)
  cases e : subE c' d with
  | true =>
    rw [e] at hq'
    exact iteT ⟨_, hs, .ty "ValueError", .type "ValueError", true, rfl, fun u z => z, x3, hq'⟩
  | false =>
    rw [e] at hq'
    exact iteF hq'
end
end Bg

set_option Elab.async false
set_option linter.all false
set_option maxRecDepth 100000
set_option maxHeartbeats 4000000
/-! The check of statements, and its soundness. -/
namespace Bg
open PySem PySem.Spec L2

abbrev allT : Str → Bool := fun _ => true
section
variable (P : Pt) (N : List Str) (sc : Scope)
def isLc : Ex → Bool
  | .lc _ _ _ _ => true
  | _ => false
def nameB (e : Expr) (i : Nat) : Bool := match e with
  | .Name y _ => nmB N i y && visB sc y && !dbg y
  | _ => false
/-- a list newly made -/
def ckF (x : Ex) (e : Expr) : Bool := match x with
  | .lst xs => (match e with
    | .List es _ => ckA P N sc allT xs es && xs.allSt && decide (xs.len ≤ 1000)
    | _ => false)
  | .lc _ _ _ _ => ckE P N sc allT x e
  | .bin .add a b => (match e with
    | .BinOp ea .Add eb _ => ckE P N sc allT a ea && ckE P N sc allT b eb
    | _ => false)
  | .bin .mul a b => (match e with
    | .BinOp ea .Mult eb _ => ckE P N sc allT a ea && ckE P N sc allT b eb
    | _ => false)
  | _ => false
def isLL : Ex → Bool
  | .lc _ _ _ _ => true
  | .lst _ => true
  | _ => false
def ckP : List Bool → Exs → List Expr → Bool
  | [], .nil, [] => true
  | false :: bs, .cons x xs, e :: es => noStar e && x.st && ckE P N sc allT x e && ckP bs xs es
  | true :: bs, .cons x xs, e :: es => noStar e && isLL x && ckF P N sc x e && ckP bs xs es
  | _, _, _ => false
def ckPar (ts : List (Nat × Bool)) (xs : Exs) (tg e : Expr) : Bool := match tg, e with
  | .Tuple [.Name x px, .Name y py] _ _, .Tuple [a, b] _ _ => (match ts with
    | [(i, bi), (j, bj)] => nmB N i x && nmB N j y && !(i == j) && decide (sc.names.lookup x = some .local) && decide (sc.names.lookup y = some .local) &&
        decide (swapD sc [.Name x px, .Name y py] [a, b] = some (some [x, y])) && ckP P N sc [bi, bj] xs [a, b]
    | _ => false)
  | .Tuple [.Name x px, .Name y py, .Name z pz] _ _, .Tuple [a, b, c] _ _ => (match ts with
    | [(i, bi), (j, bj), (l, bl)] => nmB N i x && nmB N j y && nmB N l z && !(i == j) && !(i == l) && !(j == l) && decide (sc.names.lookup x = some .local) && decide (sc.names.lookup y = some .local) && decide (sc.names.lookup z = some .local) &&
        decide (swapD sc [.Name x px, .Name y py, .Name z pz] [a, b, c] = some (some [x, y, z])) && ckP P N sc [bi, bj, bl] xs [a, b, c]
    | _ => false)
  | _, _ => false
/-- a tuple is made and taken apart -/
def ckParN (ts : List (Nat × Bool)) (xs : Exs) (tg e : Expr) : Bool := match tg, e with
  | .Tuple es _ _, .Tuple vs _ _ => chkNs N sc allT es (ts.map (·.1)) && decide (ts.length ≤ 1000) && decide (swapD sc es vs = some none) && ckP P N sc (ts.map (·.2)) xs vs
  | _, _ => false
/-- no store from the right -/
def ckNoSwap (es : List Expr) (e : Expr) : Bool := match e with
  | .Tuple vs _ _ => decide (swapD sc es vs = some none)
  | _ => true
/-- name = e: by the plain way, or the comprehension's -/
def ckSet (x : Ex) (y : Str) (py : Pos) (e : Expr) : Bool := noComp e || isLc x
/-- a call of a list's method -/
def ckM (i : Nat) (m : Str) (x : Ex) (e : Expr) : Bool := match e with
  | .Call (.Attribute o nm apos) [a] [] cpos => nameB N sc o i && decide (nm = m) && noStar a && (apos.endLine == cpos.line) && ckE P N sc allT x a && x.st
  | _ => false
def exB' (P : Pt) (i : Nat) (x : Str) : Bool := match P.exc i with
  | some y => decide (y = x)
  | none => false
def isFrz : Sx → Bool
  | .frz _ => true
  | _ => false
mutual
def ckS : Sx → Stmt → Bool
  | .ex x, s => match s with
    | .Expr e _ => ckE P N sc allT x e && noComp e
    | _ => false
  | .set i x, s => match s with
    | .Assign [.Name y py] e _ => chkN N sc allT (.Name y py) i && ckE P N sc allT x e && x.st && ckSet x y py e
    | _ => false
  | .own i x, s => match s with
    | .Assign [.Name y py] e _ => chkN N sc allT (.Name y py) i && ckF P N sc x e && ckSet x y py e
    | _ => false
  | .par ts xs, s => match s with
    | .Assign [tg] e _ => ckPar P N sc ts xs tg e || ckParN P N sc ts xs tg e
    | _ => false
  | .unp is x, s => match s with
    | .Assign [.Tuple es _ _] e _ => chkNs N sc allT es is && ckE P N sc allT x e && x.st && ckNoSwap sc es e
    | _ => false
  | .app i x, s => match s with
    | .Expr e _ => ckM P N sc i "append" x e
    | _ => false
  | .ext i x, s => match s with
    | .Expr e _ => ckM P N sc i "extend" x e
    | _ => false
  | .seti i k x, s => match s with
    | .Assign [.Subscript o ke _] e _ => nameB N sc o i && notSlice ke && ckE P N sc allT k ke && ckE P N sc allT x e && x.st
    | _ => false
  | .ret x, s => match s with
    | .Return (some e) _ => ckE P N sc allT x e && x.st
    | .Return none _ => (match x with | .non => true | _ => false)
    | _ => false
  | .ite x a b, s => match s with
    | .If e p q _ => ckE P N sc allT x e && !x.isIte && ckSs a p && ckSs b q
    | _ => false
  | .for_ t r b, s => match s with
    | .For tg iter body [] _ => ckR P N sc allT r tg iter && chkT N sc allT tg t && notSet iter && ckSs b body
    | _ => false
  | .whl x b, s => match s with
    | .While e body [] _ => ckE P N sc allT x e && !x.isIte && ckSs b body
    | _ => false
  | .raise i, s => match s with
    | .Raise (some (.Call (.Name x _) [.Constant (.str _) _ _] [] _)) none _ => exB' P i x && glB sc x && !dbg x
    | _ => false
  | .tryo b i h, s => match s with
    | .Try body [.ExceptHandler (some (.Name x _)) none suite _] [] [] _ => exB' P i x && glB sc x && !dbg x && ckSs b body && ckHs N sc h suite
    | _ => false
  | .try2 b i h i2 h2, s => match s with
    | .Try body [.ExceptHandler (some (.Name x _)) none suite _, .ExceptHandler (some (.Name x2 _)) none suite2 _] [] [] _ => exB' P i x && glB sc x && !dbg x && exB' P i2 x2 && glB sc x2 && !dbg x2 && ckSs b body && ckHs N sc h suite && ckHs N sc h2 suite2
    | _ => false
  | .tryw b i j, s => match s with
    | .Try body [.ExceptHandler (some (.Name x _)) (some n) [.Return (some (.Call (.Name f _) [.Name n2 _] [] _)) _] _] [] [] _ => exB' P i x && glB sc x && !dbg x && ckSs b body && nmB N j n && decide (sc.names.lookup n = some .local) && !dbg n && decide (n2 = n) &&
        (P.ws.any fun p => decide (p.1 = f)) && glB sc f && !dbg f && exB' P 1 "NoRow" && exB' P 2 "NoCode" && exB' P 3 "Doubtful" && exB' P 4 "Closed" && exB' P 5 "NoText" && exB' P 0 "BarError"
    | _ => false
  | .tryi b i j d, s => match s with
    | .Try body [.ExceptHandler (some (.Name x _)) (some n) [.Return (some (.BoolOp .And [.Call (.Name f1 _) [.Name n1 _, .Name y _] [] _, .Call (.Name f2 _) [.Name n2 _, .Name v _] [] _] _)) _] _] [] [] _ => exB' P i x && glB sc x && !dbg x && ckSs b body && nmB N j n && decide (sc.names.lookup n = some .local) && !dbg n && decide (n1 = n) && decide (n2 = n) &&
        decide (f1 = "isinstance") && decide (f2 = "isinstance") && decide (v = "ValueError") && exB' P d y && glB sc y && !dbg y && glB sc "isinstance" && glB sc "ValueError"
    | _ => false
  | .pass, s => match s with
    | .Pass _ => true
    | .Expr (.Constant (.str _) _ _) _ => true
    | _ => false
  | .frz _, _ => false
  | .newd i, s => match s with
    | .Assign [.Name y py] (.Dict [] [] _) _ => chkN N sc allT (.Name y py) i
    | _ => false
  | .setd i xs x, s => match s with
    | .Assign [.Subscript o (.Tuple es _ _) _] e _ => nameB N sc o i && ckA P N sc allT xs es && xs.allSt && decide (xs.len ≤ 1000) && ckE P N sc allT x e && x.st && noComp e
    | _ => false
def ckSs : Sxs → List Stmt → Bool
  | .nil, l => l.isEmpty
  | .cons s r, l => match isFrz s with
    | true => ckSs r l
    | false => match l with
      | st :: l => ckS s st && ckSs r l
      | [] => false
end
end

section
variable {L : Lg} {k : Nat} {N : List Str} {sc : Scope} {W : WX} {X : Cx}
theorem nameB_ok {e : Expr} {i : Nat} (h : nameB N sc e i = true) : ∃ y p, e = .Name y p ∧ N[i]? = some y ∧ visB sc y = true ∧ dbg y = false := by
  cases e <;> simp only [nameB, reduceCtorEq, Bool.and_eq_true] at h
  exact ⟨_, _, rfl, nmB_ok h.1.1, h.1.2, nb h.2⟩
theorem ckF_ok (c : Ctx L k N sc allT W X) {x : Ex} {e : Expr} (h : ckF L.P N sc x e = true) : PE X e (TFx X.K X.mg L W x) := by
  unfold ckF at h
  split at h
  · split at h
    · simp only [Bool.and_eq_true, decide_eq_true_eq] at h
      exact s_lstF (ckA_ok _ c h.1.1) h.1.2 h.2
    · cases h
  · simp only [ckE] at h
    split at h
    · simp only [Bool.and_eq_true, decide_eq_true_eq] at h
      obtain ⟨⟨⟨⟨⟨⟨⟨h1, h2⟩, h3⟩, h4⟩, h5⟩, h6⟩, h7⟩, h8⟩ := h
      exact s_lcF c h1 (ckR_ok _ c h2) h3 h4 (fun Y d => chkT_ok d h6) (fun Y d => ckC_ok _ d h7) (fun Y d => (ckE_ok _ d h8).1) (notSet_fold h5)
    · cases h
  · split at h
    · rw [Bool.and_eq_true] at h
      exact s_binF (bo := .add) op_addF (ckE_ok _ c h.1).1 (ckE_ok _ c h.2).1
    · cases h
  · split at h
    · rw [Bool.and_eq_true] at h
      exact s_binF (bo := .mul) op_mulF (ckE_ok _ c h.1).1 (ckE_ok _ c h.2).1
    · cases h
  · cases h
theorem isLL_ok {x : Ex} (h : isLL x = true) : ∀ ρ d, evE L.U L.cl ρ x = .ok d → ∃ ds, d = .list ds := fun ρ d e => by
  cases x <;> first | exact lst_list e | exact lc_list e | cases h
theorem ckP_ok (c : Ctx L k N sc allT W X) : ∀ {bs : List Bool} {xs : Exs} {es : List Expr}, ckP L.P N sc bs xs es = true → PA X es (TPx X.K X.mg L W bs xs)
  | [], .nil, [], _ => p_nil
  | false :: bs, .cons x xs, e :: es, h => by
    simp only [ckP, Bool.and_eq_true] at h
    exact p_val h.1.1.1 h.1.1.2 (ckE_ok x c h.1.2).1 (ckP_ok c h.2)
  | true :: bs, .cons x xs, e :: es, h => by
    simp only [ckP, Bool.and_eq_true] at h
    exact p_own h.1.1.1 (isLL_ok h.1.1.2) (ckF_ok c h.1.2) (ckP_ok c h.2)
  | [], .nil, _ :: _, h => by cases h
  | [], .cons _ _, _, h => by cases h
  | false :: _, .nil, _, h => by cases h
  | true :: _, .nil, _, h => by cases h
  | false :: _, .cons _ _, [], h => by cases h
  | true :: _, .cons _ _, [], h => by cases h
theorem ckPar_ok (c : Ctx L k N sc allT W X) {ts : List (Nat × Bool)} {xs : Exs} {tg e : Expr} {pos : Pos} (h : ckPar L.P N sc ts xs tg e = true) : PS X (.Assign [tg] e pos) (TSx X.K X.mg L W (.par ts xs)) := by
  unfold ckPar at h
  split at h
  · split at h
    · simp only [Bool.and_eq_true, decide_eq_true_eq] at h
      obtain ⟨⟨⟨⟨⟨⟨h1, h2⟩, h3⟩, h4⟩, h5⟩, h6⟩, h7⟩ := h
      exact q_par2 c (nmB_ok h1) (nmB_ok h2) (by simpa using h3) h4 h5 h6 (ckP_ok c h7)
    · cases h
  · split at h
    · simp only [Bool.and_eq_true, decide_eq_true_eq] at h
      obtain ⟨⟨⟨⟨⟨⟨⟨⟨⟨⟨h1, h2⟩, h3⟩, h4⟩, h5⟩, h6⟩, h7⟩, h8⟩, h9⟩, h10⟩, h11⟩ := h
      exact q_par3 c (nmB_ok h1) (nmB_ok h2) (nmB_ok h3) (by simpa using h4) (by simpa using h5) (by simpa using h6) h7 h8 h9 h10 (ckP_ok c h11)
    · cases h
  · cases h
theorem ckParN_ok (c : Ctx L k N sc allT W X) {ts : List (Nat × Bool)} {xs : Exs} {tg e : Expr} {pos : Pos} (h : ckParN L.P N sc ts xs tg e = true) : PS X (.Assign [tg] e pos) (TSx X.K X.mg L W (.par ts xs)) := by
  unfold ckParN at h
  split at h
  · simp only [Bool.and_eq_true, decide_eq_true_eq] at h
    exact q_parN c h.1.1.1 h.1.1.2 h.1.2 (ckP_ok c h.2)
  · cases h
theorem ckNoSwap_ok (c : Ctx L k N sc allT W X) {es : List Expr} {j : Nat} {p : Pos} {e : Expr} (h : ckNoSwap sc es e = true) : swappedStores [.Tuple es j p] e X.env = pure none := by
  unfold ckNoSwap at h
  split at h
  · rw [decide_eq_true_eq] at h
    exact swap_eq (by rw [c.hsc]; exact c.kind) (by rw [c.hsc]; exact h)
  · rename_i hn
    exact ss_tup (by cases e <;> first | rfl | exact absurd rfl (hn _ _ _))
/-- the comprehension's store, whichever way it goes -/
theorem lcAny (c : Ctx L k N sc allT W X) {t : Tg} {s : Sr} {oc : Oc} {x : Ex} {i : Nat} {y : Str} {py pos : Pos} {e : Expr} (hn : chkN N sc allT (.Name y py) i = true) (h : ckE L.P N sc allT (.lc t s oc x) e = true) :
    swapsWith e (some (.Name y py)) pos.line X.env = pure false ∨ PS X (.Assign [.Name y py] e pos) (tAsg (TFx X.K X.mg L W (.lc t s oc x)) (gName i)) := by
  simp only [ckE] at h
  split at h
  · rename_i elt tg iter ifs scope pos'
    simp only [Bool.and_eq_true, decide_eq_true_eq] at h
    obtain ⟨⟨⟨⟨⟨⟨⟨h1, h2⟩, h3⟩, h4⟩, h5⟩, h6⟩, h7⟩, h8⟩ := h
    cases hs : swB X.env.scope (.ListComp elt [⟨tg, iter, ifs, 0⟩] scope pos') y py with
    | false => exact .inl (sw_false (by rw [c.hsc]; exact c.kind) hs)
    | true =>
      refine .inr ?_
      simp only [swB, Bool.and_eq_true, decide_eq_true_eq] at hs
      simp only [chkN, Bool.and_eq_true] at hn
      have hy : N[i]? = some y := by
        have h1 := hn.1.1
        split at h1
        · rename_i z e; rw [e, of_decide_eq_true h1]
        · cases h1
      refine lc_asg c h1 (ckR_ok s c h2) h3 h4 (fun Y d => chkT_ok d h6) (fun Y d => ckC_ok oc d h7) (fun Y d => (ckE_ok x d h8).1) (notSet_fold h5) hy (by rw [← c.hsc]; exact hs.1.1) ?_
      exact sw_true (by rw [c.hsc]; exact c.kind) hs.1.1 hs.1.2 (nb hs.2)
  · cases h
theorem ckM_app (c : Ctx L k N sc allT W X) {i : Nat} {x : Ex} {e : Expr} {pos : Pos} (h : ckM L.P N sc i "append" x e = true) : PS X (.Expr e pos) (TSx X.K X.mg L W (.app i x)) := by
  unfold ckM at h
  split at h
  · simp only [Bool.and_eq_true, decide_eq_true_eq] at h
    obtain ⟨⟨⟨⟨⟨h1, h2⟩, h3⟩, h4⟩, h5⟩, h6⟩ := h
    obtain ⟨y, p, rfl, r1, r2, r3⟩ := nameB_ok h1
    subst h2
    exact q_app c r1 r2 r3 h3 h4 (ckE_ok x c h5).1 h6
  · cases h
theorem ckM_ext (c : Ctx L k N sc allT W X) {i : Nat} {x : Ex} {e : Expr} {pos : Pos} (h : ckM L.P N sc i "extend" x e = true) : PS X (.Expr e pos) (TSx X.K X.mg L W (.ext i x)) := by
  unfold ckM at h
  split at h
  · simp only [Bool.and_eq_true, decide_eq_true_eq] at h
    obtain ⟨⟨⟨⟨⟨h1, h2⟩, h3⟩, h4⟩, h5⟩, h6⟩ := h
    obtain ⟨y, p, rfl, r1, r2, r3⟩ := nameB_ok h1
    subst h2
    exact q_ext c r1 r2 r3 h3 h4 (ckE_ok x c h5).1 h6
  · cases h
theorem ckSet_set (c : Ctx L k N sc allT W X) {i : Nat} {x : Ex} {y : Str} {py pos : Pos} {e : Expr} (hn : chkN N sc allT (.Name y py) i = true) (h : ckE L.P N sc allT x e = true) (hs : x.st = true) (hw : ckSet x y py e = true) : PS X (.Assign [.Name y py] e pos) (TSx X.K X.mg L W (.set i x)) := by
  simp only [ckSet, Bool.or_eq_true] at hw
  rcases hw with hw | hw
  · exact q_set c hn (ckE_ok x c h).1 hs (sw_none hw)
  · cases x <;> simp only [isLc, reduceCtorEq] at hw
    rcases lcAny (pos := pos) c hn h with q | q
    · exact q_set c hn (ckE_ok _ c h).1 hs q
    · exact lcS_set q
theorem ckSet_own (c : Ctx L k N sc allT W X) {i : Nat} {x : Ex} {y : Str} {py pos : Pos} {e : Expr} (hn : chkN N sc allT (.Name y py) i = true) (h : ckF L.P N sc x e = true) (hw : ckSet x y py e = true) : PS X (.Assign [.Name y py] e pos) (TSx X.K X.mg L W (.own i x)) := by
  simp only [ckSet, Bool.or_eq_true] at hw
  rcases hw with hw | hw
  · exact q_own c hn (ckF_ok c h) (sw_none hw)
  · cases x <;> simp only [isLc, reduceCtorEq] at hw
    have h' := h
    simp only [ckF] at h'
    rcases lcAny (pos := pos) c hn h' with q | q
    · exact q_own c hn (ckF_ok c h) q
    · exact lcS_own q
theorem isFrz_ok {x : Sx} (h : isFrz x = true) : ∃ i, x = .frz i := by
  cases x <;> first | exact ⟨_, rfl⟩ | cases h
theorem exB'_ok {P : Pt} {i : Nat} {x : Str} (h : exB' P i x = true) : P.exc i = some x := by
  unfold exB' at h
  split at h
  · rename_i y e; rw [e, of_decide_eq_true h]
  · cases h
mutual
theorem ckS_ok : ∀ (x : Sx) {W : WX} {X : Cx} (c : CtS L k N sc W X) {s : Stmt}, ckS L.P N sc x s = true → PS X s (TSx X.K X.mg L W x)
  | .ex x, W, X, c, s, h => by
    cases s <;> simp only [ckS, reduceCtorEq, Bool.and_eq_true] at h
    exact q_ex (ckE_ok x c.c h.1).1 h.2
  | .set i x, W, X, c, s, h => by
    simp only [ckS] at h
    split at h
    · simp only [Bool.and_eq_true] at h
      exact ckSet_set c.c h.1.1.1 h.1.1.2 h.1.2 h.2
    · cases h
  | .own i x, W, X, c, s, h => by
    simp only [ckS] at h
    split at h
    · simp only [Bool.and_eq_true] at h
      exact ckSet_own c.c h.1.1 h.1.2 h.2
    · cases h
  | .par ts xs, W, X, c, s, h => by
    simp only [ckS] at h
    split at h
    · rw [Bool.or_eq_true] at h
      rcases h with h | h
      · exact ckPar_ok c.c h
      · exact ckParN_ok c.c h
    · cases h
  | .unp is x, W, X, c, s, h => by
    simp only [ckS] at h
    split at h
    · simp only [Bool.and_eq_true] at h
      exact q_unp c.c h.1.1.1 (ckE_ok x c.c h.1.1.2).1 h.1.2 (ckNoSwap_ok c.c h.2)
    · cases h
  | .app i x, W, X, c, s, h => by
    cases s <;> simp only [ckS, reduceCtorEq] at h
    exact ckM_app c.c h
  | .ext i x, W, X, c, s, h => by
    cases s <;> simp only [ckS, reduceCtorEq] at h
    exact ckM_ext c.c h
  | .newd i, W, X, c, s, h => by
    simp only [ckS] at h
    split at h
    · exact q_newd c.c h
    · cases h
  | .setd i xs x, W, X, c, s, h => by
    simp only [ckS] at h
    split at h
    · simp only [Bool.and_eq_true, decide_eq_true_eq] at h
      obtain ⟨⟨⟨⟨⟨⟨h1, h2⟩, h3⟩, h4⟩, h5⟩, h6⟩, h7⟩ := h
      obtain ⟨y, p, rfl, r1, r2, r3⟩ := nameB_ok h1
      exact q_setd c.c r1 r2 r3 (sw_none h7) (ckE_ok x c.c h5).1 h6 (ckA_ok xs c.c h2) h3 h4
    · cases h
  | .seti i kx x, W, X, c, s, h => by
    simp only [ckS] at h
    split at h
    · simp only [Bool.and_eq_true] at h
      obtain ⟨⟨⟨⟨h1, h2⟩, h3⟩, h4⟩, h5⟩ := h
      obtain ⟨y, p, rfl, r1, r2, r3⟩ := nameB_ok h1
      exact q_seti c.c r1 r2 r3 h2 (ckE_ok x c.c h4).1 h5 (ckE_ok kx c.c h3).1
    · cases h
  | .ret x, W, X, c, s, h => by
    simp only [ckS] at h
    split at h
    · rw [Bool.and_eq_true] at h
      exact q_ret (ckE_ok x c.c h.1).1 h.2
    · split at h
      · exact q_retN
      · cases h
    · cases h
  | .ite x a b, W, X, c, s, h => by
    cases s <;> simp only [ckS, reduceCtorEq, Bool.and_eq_true] at h
    obtain ⟨⟨⟨h1, h2⟩, h3⟩, h4⟩ := h
    exact q_ite ((ckE_ok x c.c h1).2.1 (nb h2)) (ckSs_ok a c h3) (ckSs_ok b c h4)
  | .for_ t r b, W, X, c, s, h => by
    simp only [ckS] at h
    split at h
    · simp only [Bool.and_eq_true] at h
      obtain ⟨⟨⟨h1, h2⟩, h3⟩, h4⟩ := h
      exact q_for c (ckR_ok r c.c h1) (chkT_ok c.c h2) (ckSs_ok b c h4) h3
    · cases h
  | .whl x b, W, X, c, s, h => by
    simp only [ckS] at h
    split at h
    · simp only [Bool.and_eq_true] at h
      exact q_whl c ((ckE_ok x c.c h.1.1).2.1 (nb h.1.2)) (ckSs_ok b c h.2)
    · cases h
  | .raise i, W, X, c, s, h => by
    simp only [ckS] at h
    split at h
    · simp only [Bool.and_eq_true] at h
      exact q_raise c (exB'_ok h.1.1) h.1.2 (nb h.2)
    · cases h
  | .tryo b i xh, W, X, c, s, h => by
    simp only [ckS] at h
    split at h
    · simp only [Bool.and_eq_true] at h
      obtain ⟨⟨⟨⟨h1, h2⟩, h3⟩, h4⟩, h5⟩ := h
      exact q_try c (exB'_ok h1) h2 (nb h3) (fun W' Y cY => ckSs_ok b cY h4) h5
    · cases h
  | .try2 b i xh i2 xh2, W, X, c, s, h => by
    simp only [ckS] at h
    split at h
    · simp only [Bool.and_eq_true] at h
      obtain ⟨⟨⟨⟨⟨⟨⟨⟨h1, h2⟩, h3⟩, g1⟩, g2⟩, g3⟩, h4⟩, h5⟩, h6⟩ := h
      exact q_try2 c (exB'_ok h1) h2 (nb h3) (exB'_ok g1) g2 (nb g3) (fun W' Y cY => ckSs_ok b cY h4) h5 h6
    · cases h
  | .tryw b i j, W, X, c, s, h => by
    simp only [ckS] at h
    split at h
    · simp only [Bool.and_eq_true, decide_eq_true_eq] at h
      obtain ⟨⟨⟨⟨⟨⟨⟨⟨⟨⟨⟨⟨⟨⟨⟨⟨h1, h2⟩, h3⟩, h4⟩, h5⟩, h6⟩, h7⟩, rfl⟩, h9⟩, h10⟩, h11⟩, e1⟩, e2⟩, e3⟩, e4⟩, e5⟩, e0⟩ := h
      obtain ⟨p, hp, hq⟩ := List.any_eq_true.mp h9
      obtain ⟨px, pst⟩ := p
      have hq := of_decide_eq_true hq
      dsimp only at hq
      subst hq
      exact q_tryw c (exB'_ok h1) h2 (nb h3) (nmB_ok h5) h6 (nb h7) hp h10 (nb h11) (exB'_ok e1) (exB'_ok e2) (exB'_ok e3) (exB'_ok e4) (exB'_ok e5) (exB'_ok e0) (fun W' Y cY => ckSs_ok b cY h4)
    · cases h
  | .tryi b i j d, W, X, c, s, h => by
    simp only [ckS] at h
    split at h
    · simp only [Bool.and_eq_true, decide_eq_true_eq] at h
      obtain ⟨⟨⟨⟨⟨⟨⟨⟨⟨⟨⟨⟨⟨⟨⟨⟨h1, h2⟩, h3⟩, h4⟩, h5⟩, h6⟩, h7⟩, rfl⟩, rfl⟩, rfl⟩, rfl⟩, rfl⟩, e1⟩, e2⟩, e3⟩, e4⟩, e5⟩ := h
      exact q_tryi c (exB'_ok h1) h2 (nb h3) (nmB_ok h5) h6 (nb h7) (exB'_ok e1) e2 (nb e3) e4 e5 (fun W' Y cY => ckSs_ok b cY h4)
    · cases h
  | .pass, W, X, c, s, h => by
    simp only [ckS] at h
    split at h
    · exact q_pass ps_pass
    · exact q_pass ps_doc
    · cases h
  | .frz _, W, X, c, s, h => by simp [ckS] at h
theorem ckSs_ok : ∀ (x : Sxs) {W : WX} {X : Cx} (c : CtS L k N sc W X) {s : List Stmt}, ckSs L.P N sc x s = true → PSs X s (TSs X.K X.mg L W x)
  | .nil, W, X, c, s, h => by
    cases s with
    | nil => exact q_nil
    | cons _ _ => simp [ckSs] at h
  | .cons x xs, W, X, c, s, h => by
    simp only [ckSs] at h
    cases hf : isFrz x with
    | true =>
      rw [hf] at h
      obtain ⟨i, hi⟩ := isFrz_ok hf
      have q := ckSs_ok xs c h
      rw [hi]
      exact q_frz q
    | false =>
      rw [hf] at h
      cases s with
      | nil => cases h
      | cons st l =>
        simp only [Bool.and_eq_true] at h
        exact q_cons (ckS_ok x c h.1) (ckSs_ok xs c h.2)
end
end
end Bg

set_option Elab.async false
set_option linter.all false
set_option maxRecDepth 100000
set_option maxHeartbeats 4000000
/-! Each def gives what the evaluator gives. -/
namespace Bg
open PySem PySem.Spec L2 PyProof.Rows

def plainArgs (a : Arguments) : Bool := a.posonlyargs.isEmpty && a.vararg.isNone && a.kwonlyargs.isEmpty && a.kw_defaults.isEmpty && a.kwarg.isNone && a.defaults.isEmpty
theorem plainArgs_ok {a : Arguments} (h : plainArgs a = true) : a = ⟨[], a.args, none, [], [], none, []⟩ := by
  obtain ⟨p1, p2, p3, p4, p5, p6, p7⟩ := a
  simp only [plainArgs, Bool.and_eq_true, List.isEmpty_iff, Option.isNone_iff_eq_none] at h
  obtain ⟨⟨⟨⟨⟨rfl, rfl⟩, rfl⟩, rfl⟩, rfl⟩, rfl⟩ := h
  rfl
theorem zl_get : ∀ {ns : List Str} {us : List Value}, ns.Nodup → us.length = ns.length → ∀ (i : Nat) n u, ns[i]? = some n → us[i]? = some u → (ns.zip us).lookup n = some u
  | [], _, _, _, i, n, u, h, _ => by simp at h
  | a :: ns, [], _, hl, _, _, _, _, _ => by simp at hl
  | a :: ns, v :: us, nd, hl, 0, n, u, h, h' => by
    simp at h h'
    subst h h'
    simp [List.lookup]
  | a :: ns, v :: us, nd, hl, i + 1, n, u, h, h' => by
    have nd' := List.nodup_cons.mp nd
    have hm : n ∈ ns := List.mem_of_getElem? (by simpa using h)
    have hne : n ≠ a := fun z => nd'.1 (z ▸ hm)
    have : (n == a) = false := by simpa using hne
    rw [List.zip_cons_cons, List.lookup_cons, this]
    exact zl_get nd'.2 (by simpa using hl) i n u (by simpa using h) (by simpa using h')
theorem zl_none {ns : List Str} {us : List Value} (nd : ns.Nodup) (hl : us.length = ns.length) : (ns.filter fun n => ((ns.zip us).lookup n).isNone) = [] := by
  rw [List.filter_eq_nil_iff]
  intro n hn
  obtain ⟨i, hi, e⟩ := List.mem_iff_getElem.mp hn
  have hu : i < us.length := by omega
  rw [zl_get nd hl i n us[i] (by rw [List.getElem?_eq_getElem hi, e]) (List.getElem?_eq_getElem hu)]
  simp
theorem zl_map {ns : List Str} {us : List Value} (nd : ns.Nodup) (hl : us.length = ns.length) : (ns.filterMap fun n => ((ns.zip us).lookup n).map (n, ·)) = ns.zip us := by
  have key : ∀ (l : List Str) (k : Nat), l = ns.drop k → (l.filterMap fun n => ((ns.zip us).lookup n).map (n, ·)) = (ns.zip us).drop k := by
    intro l
    induction l with
    | nil =>
      intro k e
      have : ns.length ≤ k := by
        have := congrArg List.length e
        simp at this
        omega
      rw [List.drop_eq_nil_of_le (by rw [List.length_zip]; omega)]
      rfl
    | cons a l ih =>
      intro k e
      have hk : k < ns.length := by
        have := congrArg List.length e
        simp at this
        omega
      have hu : k < us.length := by omega
      rw [List.drop_eq_getElem_cons hk] at e
      injection e with e1 e2
      have hz : k < (ns.zip us).length := by rw [List.length_zip]; omega
      rw [List.filterMap_cons, zl_get nd hl k a us[k] (by rw [List.getElem?_eq_getElem hk, e1]) (List.getElem?_eq_getElem hu), List.drop_eq_getElem_cons hz, ih (k + 1) e2]
      simp [e1]
  simpa using key ns 0 rfl
theorem bind_plain {x qual : Str} {body : List Stmt} {scope : Scope} {kV doc pm : Value} {an : Option Addr} {cdv ct : Value} (as : List Arg) (us : List Value) (nd : (as.map (·.arg)).Nodup) (hl : us.length = as.length) :
    bindArgs (PySem.W.fnOf x qual ⟨[], as, none, [], [], none, []⟩ body scope .none kV doc pm an cdv ct) ⟨us, []⟩ = pure ((as.map (·.arg)).zip us) := by
  have hl' : us.length = (as.map (·.arg)).length := by rw [List.length_map]; exact hl
  unfold bindArgs PySem.W.fnOf
  have e1 : seqItems? Value.none = (pure none : Sem (Option (Array Value))) := rfl
  simp only [e1, List.map_nil, List.nil_append, List.append_nil, List.forIn_nil, pure_bind, Option.getD_none, List.drop_nil, List.length_nil, Nat.zero_sub, Nat.sub_zero, List.take_length, List.drop_length, List.zip_nil_left, zl_none nd hl', zl_map nd hl']
  have h2 : ¬ (us.length > (as.map (·.arg)).length) := by omega
  simp [h2, hl]

def scOk (N ps : List Str) (sc : Scope) : Bool := decide (sc.kind = .function) && !sc.isCoroutine && !sc.isGenerator && decide N.Nodup && decide (N.take ps.length = ps) && (ps.all fun x => locB sc x) && sc.names.all fun y => decide (y.2 ≠ .free)
theorem scOk_ok {N ps : List Str} {sc : Scope} (h : scOk N ps sc = true) : FnScope N ps sc := by
  simp only [scOk, Bool.and_eq_true, decide_eq_true_eq] at h
  obtain ⟨⟨⟨⟨⟨⟨h1, h2⟩, h3⟩, h4⟩, h5⟩, h6⟩, h7⟩ := h
  refine ⟨h1, nb h2, nb h3, h4, h5, fun x hx => ?_, fun y hy => ?_⟩
  · have q := List.all_eq_true.mp h6 x hx
    unfold locB at q
    split at q
    · rename_i e; exact .inl e
    · rename_i e; exact .inr e
    · cases q
  · have q := List.all_eq_true.mp h7 y hy
    exact of_decide_eq_true q
/-- one def's text -/
def fdOk (P : Pt) (fd : Fd) (st : Stmt) : Bool := plainArgs (defArgs st) && decide ((defArgs st).args.map (·.arg) = fd.N.take fd.par) && decide (fd.par ≤ fd.N.length) && scOk fd.N (fd.N.take fd.par) (defScope st) && ckSs P fd.N (defScope st) fd.body (defBody st)
/-! ### a def that asks for an object made already -/
def cnS (P : Pt) (ci : Nat) (x : Str) : Bool := match P.con ci with
  | some c => decide (c.1 = x) && (match c.2 with | .str z => z.cps.all (· < 128) | _ => false)
  | none => false
def ckTB (P : Pt) (N : List Str) (sc : Scope) (b : Sxs) (sts : List Stmt) : Bool := match b with
  | .cons (.ret (.sub (.lc (.one i) (.it (.con ci)) (.some (.call g (.cons (.repl ti cs i2) .nil))) (.var i3)) (.int 0))) .nil => (match sts with
    | [.Return (some (.Subscript (.ListComp (.Name f1 _) [⟨.Name f2 _, .Name x _, [.Call (.Name gx _) [.Call (.Attribute (.Name tx _) m ap) [.Constant (.str c') _ _, .Name f3 _] [] cp] [] _], 0⟩] scope _) (.Constant (.int 0) _ _) _)) _] =>
      decide (i2 = i) && decide (i3 = i) && decide (f2 = f1) && decide (f3 = f1) && decide (m = "replace") && decide (cs = c') && (ap.endLine == cp.line) && cnS P ci x && glB sc x && !dbg x && nmB N i f1 && !dbg f1 && decide (scope.names.lookup f1 = some .local) && blkC N sc scope [(f1, i)] && decide (scope.kind = .function) &&
        fnB P g gx (some 1) && glB (relS scope sc) gx && !dbg gx && nmB N ti tx && visB (relS scope sc) tx && !dbg tx
    | _ => false)
  | _ => false
def tfOk (P : Pt) (fd : Fd) (st : Stmt) : Bool := plainArgs (defArgs st) && decide ((defArgs st).args.map (·.arg) = fd.N.take fd.par) && decide (fd.par = 1) && decide (fd.par ≤ fd.N.length) && scOk fd.N (fd.N.take fd.par) (defScope st) && ckTB P fd.N (defScope st) fd.body (defBody st)
theorem ckTB_ok {L : Lg} {k : Nat} {N : List Str} {sc : Scope} {fl : Str → Bool} {W : WX} {X : Cx} (c : Ctx L k N sc fl W X) {b : Sxs} {sts : List Stmt} (h : ckTB L.P N sc b sts = true) (pins : List (Addr × Obj)) (s : Shared) (σ : L2.St) (H : Hp) (D : Ends) (tk : Tk s) (I : Inv X pins σ H s) (q : TSs X.K X.mg L W b D σ H) :
    wpAny (model X.prog X.w) X.A (execs sts X.env) (SP X pins D) X.xe s := by
  unfold ckTB at h
  split at h
  · split at h
    · simp only [Bool.and_eq_true, decide_eq_true_eq] at h
      obtain ⟨⟨⟨⟨⟨⟨⟨⟨⟨⟨⟨⟨⟨⟨⟨⟨⟨⟨⟨⟨rfl, rfl⟩, rfl⟩, rfl⟩, rfl⟩, rfl⟩, a7⟩, a8⟩, a9⟩, b1⟩, b2⟩, b3⟩, b4⟩, b5⟩, b6⟩, b7⟩, b8⟩, b9⟩, c1⟩, c2⟩, c3⟩ := h
      unfold cnS at a8
      split at a8
      · rename_i cc ec
        rw [Bool.and_eq_true, decide_eq_true_eq] at a8
        obtain ⟨hcx, hcz⟩ := a8
        split at hcz
        · rename_i z ez
          obtain ⟨fd, q1, q2, q3⟩ := fnB_ok b7
          obtain ⟨H0, G0, ρ, G, o, q⟩ := q
          refine wpAny_execs_cons (wpAny_Return_some ?_)
          refine thn (r_sub (X := X) (L := L) (W := W) (R := Tk) (fun _ _ => rfl) (r_lc c ec hcx ez hcz a9 (nb b1) (nmB_ok b2) (nb b3) b4 b5 b6 fun Y d => r_ts (r_tru (r_call1 d q1 q2 b8 (nb b9) rfl (q3 _ rfl) rfl (r_repl d (nmB_ok c1) (nmB_ok b2) c2 (nb c3) (nb b3) (lookup_relS_keep (by decide) b4) a7)) fun _ => rfl)) (s_cst (L := L) (W := W) (x := .int 0) (v := .int 0) (d := .int 0) pe_int rfl (fun ρ => by simp only [evE]) fun G => .int _) pins s σ H (fun v H1 => D.rt v H1) tk I ⟨H0, G0, ρ, G, o, ?_⟩) fun v s1 ⟨y, H1, I1, r1, q1⟩ => ⟨y, σ, H1, I1, r1, q1⟩
          simp only [evSs, evS] at q
          generalize evE L.U L.cl ρ _ = r at q ⊢
          cases r with
          | ok d => exact fun v H1 G1 g r => q v H1 G1 (o.base.trans g) r
          | ex e => exact fun H1 G1 g => q σ H1 G1 (o.grow g)
          | no => exact q
        · cases hcz
      · cases a8
    · cases h
  · cases h
theorem ft_of {P : Program} {w : World} {K : PySem.W.Frag} {mg : Str → Option Value} {base : Heap} {x : Str} {params : Arguments} {body : List Stmt} {scope : Scope} {f : Addr} {fd : FuncData} {CX : CXT} {N ps : List Str} {k : Nat} {sp : Sp} (Fn : FunD K x x params body scope [] [] f fd) (S : FnScope N ps scope)
    (len : ∀ vs H Q E, sp vs H Q E → vs.length = ps.length)
    (hb : ∀ (cdv : Value) (A : Around) (outer : List Env) (s : Shared) (H : Hp) (vs : List V) (Q : VK) (E : XK), Room k (A.deeper (envOfC x scope s.heap.objs.size f cdv)) → sp vs H Q E → ∃ t : TS,
      (∀ (pins : List (Addr × Obj)) (s' : Shared) (σ : L2.St) (H' : Hp) (D : Ends), Tk s' → Inv (cxOf CX P w K mg base N x scope f cdv A outer s H E) pins σ H' s' → t D σ H' →
        wpAny (model P w) (cxOf CX P w K mg base N x scope f cdv A outer s H E).A (execs body (cxOf CX P w K mg base N x scope f cdv A outer s H E).env) (SP (cxOf CX P w K mg base N x scope f cdv A outer s H E) pins D) (cxOf CX P w K mg base N x scope f cdv A outer s H E).xe s') ∧
      t { nx := fun _ H' => Q .non H', rt := Q } (L2.start N vs) H) : FnT P w K mg base CX (k + 1) f fd ps sp := by
  obtain ⟨oc, od, dV, kV, doc, pm, an, cdv, ct, osl, rfl, lk, hcd, _, _⟩ := Fn.ex
  refine ⟨len, fun A outer s H args us vs Q E tk hr e0 bnd r hsp => ?_⟩
  have kin : K.In s.heap := e0.mod.kin.keeps fun b o e => (e0.bs b o e).1
  have nol : s.heap.NoLimit := e0.mod.nolimit.keeps fun b o e => (e0.bs b o e).1
  have knd : ∀ y ∈ ps.zip us, scope.names.lookup y.1 = some .local ∨ (scope.names.lookup y.1 = some .cell ∧ ((cellsFrom (s.heap.objs.size + 1) scope.names []).lookup y.1).isSome = true) := fun y hy =>
    (S.par y.1 (List.of_mem_zip (show (y.1, y.2) ∈ ps.zip us from hy)).1).imp id fun z => ⟨z, PySem.W.cellsFrom_some _ _ _ (.inl z)⟩
  refine codeAny_call_function hr.depth (kin _ _ lk) rfl S.co S.gen rfl (PySem.W.codeRec_of kin hcd) (bnd _ _ _ _ ?_)
  refine thnM (wpAny_newFunctionEnv_cells (Q := fun env s1 => env = envOfC x scope s.heap.objs.size f cdv ∧ InCallC s s.heap.objs.size (bindL (envOfC x scope s.heap.objs.size f cdv).kindOf (ps.zip us) fun _ => none) (cellsFrom (s.heap.objs.size + 1) scope.names []) (bindC (envOfC x scope s.heap.objs.size f cdv).kindOf (ps.zip us) fun _ => none) s1)
    S.kind knd fun env he s1 y => ?_) fun env s1 tk1 ⟨he, y⟩ => ?_
  · subst he
    exact ⟨rfl, y⟩
  · subst he
    refine ⟨nol.keeps y.toInCall.keep, codeAny_func ?_⟩
    obtain ⟨t, ht, hq⟩ := hb cdv A outer s H vs Q E (hr.deeper _) hsp
    have J : Inv (cxOf CX P w K mg base N x scope f cdv A outer s H E) [] (L2.start N vs) H s1 := inv_start S hr.hd e0 (len _ _ _ _ hsp) r y
    refine wpAny_mono (ht [] s1 (L2.start N vs) H _ (Nat.le_trans tk tk1) J hq) (fun fl s2 hs => ?_) fun e s2 hs => hs
    cases fl with
    | ret u =>
      obtain ⟨v, σ2, H2, J2, rv, q⟩ := hs
      exact ⟨v, H2, J2.os, J2.bare, J2.base, J2.hok, rv, q⟩
    | next =>
      obtain ⟨σ2, H2, J2, q⟩ := hs
      exact ⟨.non, H2, J2.os, J2.bare, J2.base, J2.hok, rfl, q⟩
    | brk =>
      obtain ⟨_, _, _, q⟩ := hs
      exact q.elim
    | cont =>
      obtain ⟨_, _, _, q⟩ := hs
      exact q.elim

/-- what the written part holds of the defs, the constants, the built-ins -/
structure Txt (U P : Pt) (K : PySem.W.Frag) (mg : Str → Option Value) (ec : Nat → Addr) : Prop where
  subC : ∀ i c, P.con i = some c → U.con i = some c
  subF : ∀ i c, P.fn i = some c → U.fn i = some c
  exc : ∀ (c : Nat) x, P.exc c = some x → mg x = some (.ref (ec c)) ∧ PySem.W.keepIn K (.ref (ec c)) = true ∧ PySem.W.excIn K (ec c) [.type "ValueError", .type "Exception", .type "BaseException", .type "object"] "ValueError.__new__" = true ∧ PySem.W.subIn K (.ref (ec c)) (.type "BaseException") = some true ∧ PySem.W.typeIn K (.ref (ec c)) = some (.type "type")
  exm : ∀ (c d : Nat) x, P.exc d = some x → PySem.W.exmOne K (.ref (ec c)) (.ref (ec d)) = some (subE c d)
  exi : ∀ (c d : Nat) x, P.exc d = some x → ExcC K (ec c) ∧ PySem.W.kitOne K (.ref (ec c)) (.ref (ec d)) = some (subE c d) ∧ PySem.W.kitOne K (.ref (ec c)) (.type "ValueError") = some true
  wd : ∀ p ∈ P.ws, ∃ fa data, wordOk p.2 = true ∧ mg p.1 = some (.ref fa) ∧ PySem.W.keepIn K (.ref fa) = true ∧ FunD K p.1 p.1 (defArgs p.2) (defBody p.2) (defScope p.2) [] [] fa data ∧ ∀ (s : Shared) (u : Value), BindsTo s data ⟨[u], []⟩ [("kept", u)]
  fns : ∀ (f : Nat) fd, P.fn f = some fd → ∃ st a data, fdOk P fd st = true ∧ mg fd.name = some (.ref a) ∧ FunD K fd.name fd.name (defArgs st) (defBody st) (defScope st) [] [] a data
  tws : ∀ (f : Nat) fd st, (f, fd, st) ∈ P.tw → U.fn f = some fd ∧ tfOk P fd st = true ∧ ∃ a data, mg fd.name = some (.ref a) ∧ FunD K fd.name fd.name (defArgs st) (defBody st) (defScope st) [] [] a data
  con : ∀ (i : Nat) c, P.con i = some c → ∃ v u, mg c.1 = some u ∧ RelV v u ∧ Rp K mg (fun _ => none) v c.2
  blt : ∀ x ∈ bltNames, mg x = none
  tpc : ∀ (i : Nat) c a, P.con i = some c → (∃ ds, c.2 = .tuple ds) → mg c.1 = some (.ref a) → ∃ o, K.lookup a = some o ∧ o.cls = .type "tuple" ∧ o.dict = none
section
variable {prog : Program} {w : World} {K : PySem.W.Frag} {mg : Str → Option Value} {base : Heap} {U P : Pt} {ec : Nat → Addr}
theorem start_ok {N : List Str} {H G : Hp} {vs : List V} {ds : List D} (s : Same G H) (r : RpA K mg G vs ds) : Ok K mg H G (ds.map Sl.val ++ List.replicate (N.length - ds.length) Sl.no) (L2.start N vs) H G where
  len := by unfold L2.start; simp [r.length]
  base := Gr.refl s
  val := fun i d h => by
    unfold L2.start
    by_cases hi : i < ds.length
    · rw [List.getElem?_append_left (by simpa using hi), List.getElem?_map] at h
      cases e : ds[i]? with
      | none => rw [e] at h; cases h
      | some d' =>
        rw [e] at h
        cases Option.some.inj h
        obtain ⟨v, h1, h2⟩ := r.getD e
        refine ⟨v, ?_, h2⟩
        rw [List.getElem?_append_left (by rw [List.length_map, r.length]; exact hi), List.getElem?_map, h1]
        rfl
    · rw [List.getElem?_append_right (by rw [List.length_map]; omega)] at h
      have := List.mem_of_getElem? h
      have := List.eq_of_mem_replicate this
      cases this
  dic := fun i es h => by
    exfalso
    have := List.mem_of_getElem? h
    rcases List.mem_append.mp this with z | z
    · obtain ⟨_, _, z⟩ := List.mem_map.mp z
      cases z
    · have := List.eq_of_mem_replicate z
      cases this
  ddis := fun i j es es' a h => by
    exfalso
    have := List.mem_of_getElem? h
    rcases List.mem_append.mp this with z | z
    · obtain ⟨_, _, z⟩ := List.mem_map.mp z
      cases z
    · have := List.eq_of_mem_replicate z
      cases this
  own := fun i es h => by
    exfalso
    have := List.mem_of_getElem? h
    rcases List.mem_append.mp this with z | z
    · obtain ⟨_, _, z⟩ := List.mem_map.mp z
      cases z
    · have := List.eq_of_mem_replicate z
      cases this
  dis := fun i j es es' a h => by
    exfalso
    have := List.mem_of_getElem? h
    rcases List.mem_append.mp this with z | z
    · obtain ⟨_, _, z⟩ := List.mem_map.mp z
      cases z
    · have := List.eq_of_mem_replicate z
      cases this
mutual
theorem fn_at (T : Txt U P K mg ec) : ∀ (n f : Nat) (fd : Fd) (st : Stmt) (a : Addr) (data : FuncData), P.fn f = some fd → fdOk P fd st = true → mg fd.name = some (.ref a) → FunD K fd.name fd.name (defArgs st) (defBody st) (defScope st) [] [] a data →
    PySem.W.keepIn K (.ref a) = true ∧ (∀ (s : Shared) (us : List Value), us.length = (fd.N.take fd.par).length → BindsTo s data ⟨us, []⟩ ((fd.N.take fd.par).zip us)) ∧
    FnOk prog w K mg base (L2.CX prog w) n a data (fd.N.take fd.par) (spD K mg ⟨U, P, callD U n, ec⟩ fd.par f)
  | n, f, fd, st, a, data, hf, ok, hg, F => by
    simp only [fdOk, Bool.and_eq_true, decide_eq_true_eq] at ok
    obtain ⟨⟨⟨⟨k1, k2⟩, k3⟩, k5⟩, k6⟩ := ok
    have hlen : (fd.N.take fd.par).length = fd.par := by rw [List.length_take]; omega
    have hal : (defArgs st).args.length = fd.par := by rw [← hlen, ← k2, List.length_map]
    refine ⟨F.kp, ?_, ?_⟩
    · intro s us hu
      refine FunD.bindsA F (fun kV doc pm an cdv ct us hu => ?_) s us hu
      have e := plainArgs_ok k1
      rw [e, bind_plain _ us (by rw [k2]; exact ((scOk_ok k5).nd.sublist (List.take_sublist _ _))) (by rw [hu, hlen, hal]), k2]
    · cases n with
      | zero => exact ⟨fun vs H Q E h => by obtain ⟨_, _, _, _, _, z⟩ := h; exact z.elim, fun A outer s H args us vs Q E _ _ _ _ h => by obtain ⟨_, _, _, _, _, z⟩ := h; exact z.elim⟩
      | succ n =>
        have S := scOk_ok k5
        refine F.ok S (fun vs H Q E h => by rw [hlen]; exact h.1) fun cdv A outer s H vs Q E hr h => ?_
        obtain ⟨hl, G, ds, s0, rp, h⟩ := h
        refine ⟨TSs K mg ⟨U, P, callD U n, ec⟩ (fun cls d _ H => E cls d H) fd.body, ?_, ?_⟩
        · have c : CtS ⟨U, P, callD U n, ec⟩ n fd.N (defScope st) (fun cls d _ H => E cls d H) (cxOf (L2.CX prog w) prog w K mg base fd.N fd.name (defScope st) a cdv A outer s H E) :=
            { c := { hN := rfl, nd := S.nd, calm := rfl, room := hr, hsc := rfl, kind := S.kind, fn := fun _ _ => .inl rfl, takes := takes_of rfl rfl rfl rfl, subC := T.subC, subF := T.subF,
                     fns := fun f' fd' hf' => by
                       obtain ⟨st', a', data', ok', hg', F'⟩ := T.fns f' fd' hf'
                       obtain ⟨r1, r2, r3⟩ := fn_at T n f' fd' st' a' data' hf' ok' hg' F'
                       exact ⟨a', data', hg', r1, (fun s us _ hu => by rw [List.append_nil] at hu ⊢; exact r2 s us hu), r3⟩
                     fnT := fun f' fd' st' hf' => ft_at T n f' fd' st' hf'
                     con := T.con, blt := T.blt, tpc := T.tpc }, po := passes_of rfl, stk := rfl, frm := rfl, exm := T.exm, exi := T.exi, wd := T.wd,
              exc := fun i x hi => by
                obtain ⟨r1, r2, r3, r4, r5⟩ := T.exc i x hi
                exact ⟨r1, r2, r3, raises_own r4 r5⟩ }
          exact ckSs_ok fd.body c k6
        · refine ⟨H, G, ds.map Sl.val ++ List.replicate (fd.N.length - ds.length) Sl.no, G, start_ok s0 rp, ?_⟩
          have hd : ds.length = fd.par := by rw [← rp.length]; exact hl
          simp only [callD, T.subF _ _ hf, runF, if_pos (And.intro hd k3)] at h
          show Wt K mg ⟨U, P, callD U n, ec⟩ (fun cls d _ H => E cls d H) _ H G (evSs U (callD U n) _ fd.body)
          cases e : evSs U (callD U n) (ds.map Sl.val ++ List.replicate (fd.N.length - ds.length) Sl.no) fd.body with
          | nx ρ =>
            rw [e] at h
            exact fun σ H' G' o => h .non H' G' o.base .non
          | ret d =>
            rw [e] at h
            exact fun v H' G' g r => h v H' G' g r
          | ex c ρ =>
            rw [e] at h
            exact fun σ H' G' o => h H' G' o.base
          | no => rw [e] at h; exact h
theorem ft_at (T : Txt U P K mg ec) : ∀ (n f : Nat) (fd : Fd) (st : Stmt), (f, fd, st) ∈ P.tw →
    ∃ a data, mg fd.name = some (.ref a) ∧ PySem.W.keepIn K (.ref a) = true ∧ Binds K data (fd.N.take fd.par) [] ∧ fd.par = 1 ∧ FnT prog w K mg base (L2.CX prog w) n a data (fd.N.take fd.par) (spD K mg ⟨U, P, callD U n, ec⟩ fd.par f)
  | n, f, fd, st, hf => by
    obtain ⟨hu, ok, a, data, hg, F⟩ := T.tws f fd st hf
    simp only [tfOk, Bool.and_eq_true, decide_eq_true_eq] at ok
    obtain ⟨⟨⟨⟨⟨k1, k2⟩, kp⟩, k3⟩, k5⟩, k6⟩ := ok
    have hlen : (fd.N.take fd.par).length = fd.par := by rw [List.length_take]; omega
    have hal : (defArgs st).args.length = fd.par := by rw [← hlen, ← k2, List.length_map]
    refine ⟨a, data, hg, F.kp, ?_, kp, ?_⟩
    · intro s us _ hu
      rw [List.append_nil] at hu ⊢
      refine FunD.bindsA F (fun kV doc pm an cdv ct us hu => ?_) s us hu
      have e := plainArgs_ok k1
      rw [e, bind_plain _ us (by rw [k2]; exact ((scOk_ok k5).nd.sublist (List.take_sublist _ _))) (by rw [hu, hlen, hal]), k2]
    · cases n with
      | zero => exact ⟨fun vs H Q E h => by obtain ⟨_, _, _, _, _, z⟩ := h; exact z.elim, fun A outer s H args us vs Q E _ _ _ _ _ h => by obtain ⟨_, _, _, _, _, z⟩ := h; exact z.elim⟩
      | succ n =>
        have S := scOk_ok k5
        refine ft_of F S (fun vs H Q E h => by rw [hlen]; exact h.1) fun cdv A outer s H vs Q E hr h => ?_
        obtain ⟨hl, G, ds, s0, rp, h⟩ := h
        refine ⟨TSs K mg ⟨U, P, callD U n, ec⟩ (fun cls d _ H => E cls d H) fd.body, ?_, ?_⟩
        · have c : CtS ⟨U, P, callD U n, ec⟩ n fd.N (defScope st) (fun cls d _ H => E cls d H) (cxOf (L2.CX prog w) prog w K mg base fd.N fd.name (defScope st) a cdv A outer s H E) :=
            { c := { hN := rfl, nd := S.nd, calm := rfl, room := hr, hsc := rfl, kind := S.kind, fn := fun _ _ => .inl rfl, takes := takes_of rfl rfl rfl rfl, subC := T.subC, subF := T.subF,
                     fns := fun f' fd' hf' => by
                       obtain ⟨st', a', data', ok', hg', F'⟩ := T.fns f' fd' hf'
                       obtain ⟨r1, r2, r3⟩ := fn_at T n f' fd' st' a' data' hf' ok' hg' F'
                       exact ⟨a', data', hg', r1, (fun s us _ hu => by rw [List.append_nil] at hu ⊢; exact r2 s us hu), r3⟩
                     fnT := fun f' fd' st' hf' => ft_at T n f' fd' st' hf'
                     con := T.con, blt := T.blt, tpc := T.tpc }, po := passes_of rfl, stk := rfl, frm := rfl, exm := T.exm, exi := T.exi, wd := T.wd,
              exc := fun i x hi => by
                obtain ⟨r1, r2, r3, r4, r5⟩ := T.exc i x hi
                exact ⟨r1, r2, r3, raises_own r4 r5⟩ }
          exact fun pins s' σ H' D tk I q => ckTB_ok c.c k6 pins s' σ H' D tk I q
        · refine ⟨H, G, ds.map Sl.val ++ List.replicate (fd.N.length - ds.length) Sl.no, G, start_ok s0 rp, ?_⟩
          have hd : ds.length = fd.par := by rw [← rp.length]; exact hl
          simp only [callD, hu, runF, if_pos (And.intro hd k3)] at h
          show Wt K mg ⟨U, P, callD U n, ec⟩ (fun cls d _ H => E cls d H) _ H G (evSs U (callD U n) _ fd.body)
          cases e : evSs U (callD U n) (ds.map Sl.val ++ List.replicate (fd.N.length - ds.length) Sl.no) fd.body with
          | nx ρ =>
            rw [e] at h
            exact fun σ H' G' o => h .non H' G' o.base .non
          | ret d =>
            rw [e] at h
            exact fun v H' G' g r => h v H' G' g r
          | ex c ρ =>
            rw [e] at h
            exact fun σ H' G' o => h H' G' o.base
          | no => rw [e] at h; exact h
end
end
end Bg

set_option Elab.async false
set_option linter.all false
set_option maxRecDepth 100000
set_option maxHeartbeats 4000000
/-! The head: what the written part holds, by one Boolean; the law's end. -/
namespace Bg
open PySem PySem.Spec L2 PyProof.Rows

mutual
/-- a constant's value is the data -/
def vD (K : PySem.W.Frag) : D → Value → Bool
  | .none, u => match u with
    | .none => true
    | _ => false
  | .bool b, u => match u with
    | .bool c => decide (b = c)
    | _ => false
  | .int i, u => match u with
    | .int j _ => decide (i = j)
    | _ => false
  | .str x, u => match u with
    | .str y _ => decide (x = y) && decide (x.length ≤ 1000000)
    | _ => false
  | .tuple ds, u => match u with
    | .ref a => (match K.lookup a with
      | some ⟨.type T, none, .seq its _, _⟩ => decide (T = "tuple") && decide (its.size ≤ 1000000) && vDs K ds its.toList
      | _ => false)
    | _ => false
  | .list _, _ => false
  | .dict _, _ => false
def vDs (K : PySem.W.Frag) : List D → List Value → Bool
  | [], us => us.isEmpty
  | d :: ds, us => match us with
    | u :: us => vD K d u && vDs K ds us
    | [] => false
end
section
variable {K : PySem.W.Frag} {mg : Str → Option Value}
mutual
theorem vD_ok : ∀ (d : D) {u : Value}, vD K d u = true → ∃ v, RelV v u ∧ Rp K mg (fun _ => none) v d
  | .none, u, h => by
    cases u <;> simp only [vD, reduceCtorEq] at h
    exact ⟨.non, rfl, .non⟩
  | .bool b, u, h => by
    cases u <;> simp only [vD, reduceCtorEq, decide_eq_true_eq] at h
    subst h
    exact ⟨.bl b, rfl, .bl b⟩
  | .int i, u, h => by
    cases u <;> simp only [vD, reduceCtorEq, decide_eq_true_eq] at h
    subst h
    exact ⟨.int i, ⟨_, rfl⟩, .int i⟩
  | .str x, u, h => by
    cases u <;> simp only [vD, reduceCtorEq, Bool.and_eq_true, decide_eq_true_eq] at h
    obtain ⟨rfl, h⟩ := h
    exact ⟨.str x, ⟨_, rfl⟩, .str x h⟩
  | .tuple ds, u, h => by
    cases u <;> simp only [vD, reduceCtorEq] at h
    rename_i a
    split at h
    · rename_i T its n sl e
      simp only [Bool.and_eq_true, decide_eq_true_eq] at h
      obtain ⟨⟨rfl, h1⟩, h2⟩ := h
      obtain ⟨vs, r, q⟩ := vDs_ok ds h2
      have hl : ds.length ≤ 1000000 := by
        have h3 := r.length
        rw [q.length] at h3
        have h4 : its.toList.length = its.size := Array.length_toList
        omega
      exact ⟨.ref a, rfl, .tup (.inr ⟨_, its, n, e, rfl, rfl, le_sl h1, r⟩) hl q⟩
    · cases h
  | .list _, u, h => by cases h
  | .dict _, u, h => by cases h
theorem vDs_ok : ∀ (ds : List D) {us : List Value}, vDs K ds us = true → ∃ vs, Vals vs us ∧ RpA K mg (fun _ => none) vs ds
  | [], us, h => by
    cases us with
    | nil => exact ⟨[], .nil, .nil⟩
    | cons _ _ => simp [vDs] at h
  | d :: ds, us, h => by
    cases us with
    | nil => simp [vDs] at h
    | cons u us =>
      simp only [vDs, Bool.and_eq_true] at h
      obtain ⟨v, r1, q1⟩ := vD_ok d h.1
      obtain ⟨vs, r2, q2⟩ := vDs_ok ds h.2
      exact ⟨v :: vs, .cons r1 r2, .cons q1 q2⟩
end
end
def conB (K : PySem.W.Frag) (c : Str × D) : Bool := match PySem.W.nsIn K mainGlobals c.1 with
  | some (some u) => vD K c.2 u
  | _ => false
def ecOf (P : Pt) (K : PySem.W.Frag) (c : Nat) : Addr := match P.exc c with
  | some x => He.ga K x
  | none => He.ga K "BarError"
def exc1 (K : PySem.W.Frag) (x : Str) : Bool := He.eqO (PySem.W.nsIn K mainGlobals x) (some (some (.ref (He.ga K x)))) && (He.Fa.exc x).ok K
def exmB (P : Pt) (K : PySem.W.Frag) : Bool := P.excs.isEmpty || (decide (P.exc 0 = some "BarError") && P.excs.all fun c => P.excs.all fun d => decide (PySem.W.exmOne K (.ref (ecOf P K c.1)) (.ref (ecOf P K d.1)) = some (subE c.1 d.1)) && decide (PySem.W.kitOne K (.ref (ecOf P K c.1)) (.ref (ecOf P K d.1)) = some (subE c.1 d.1)))
def excC (K : PySem.W.Frag) (D : Addr) : Bool := He.eqO (PySem.W.findIn K (.ref D) "__getattribute__") (some (some (.builtin "BaseException.__getattribute__"))) && He.eqO (PySem.W.findIn K (.ref D) "__getattr__") (some none) && decide (PySem.W.subIn K (.ref D) (.type "BaseException") = some true) && PySem.W.hasDictIn K D &&
  He.eqO (PySem.W.findIn K (.ref D) "__class__") (some (some (.builtin "object.__class__"))) && He.eqO (PySem.W.specialIn K (.builtin "object.__class__") "__get__") (some (some (.builtin "getset_descriptor.__get__"))) && decide (PySem.W.takesIn K (.builtin "object.__class__") = some true) && decide (PySem.W.mroIn K D (.type "object") = some true) &&
  decide (PySem.W.kitOne K (.ref D) (.type "ValueError") = some true)
def exB (P : Pt) (K : PySem.W.Frag) : Bool := (P.excs.all fun x => exc1 K x.2 && excC K (ecOf P K x.1)) && exmB P K && (P.funs.all fun fd => He.eqO (PySem.W.nsIn K mainGlobals fd.2.name) (some (some (.ref (He.ga K fd.2.name))))) && (P.ws.all fun p => He.eqO (PySem.W.nsIn K mainGlobals p.1) (some (some (.ref (He.ga K p.1))))) && (P.consts.all fun c => conB K c.2) && (bltNames.all fun x => He.eqO (PySem.W.nsIn K mainGlobals x) (some none)) && P.tw.all fun p => He.eqO (PySem.W.nsIn K mainGlobals p.2.1.name) (some (some (.ref (He.ga K p.2.1.name))))
def defOf (x : Str) (st : Stmt) : He.DefD := ⟨(x, none), x, x, defArgs st, defBody st, defScope st, [], []⟩
def fnsOf (P : Pt) (sts : List Stmt) : List He.DefD := (((P.funs.zip sts).map fun p => defOf p.1.2.name p.2) ++ P.ws.map fun p => defOf p.1 p.2) ++ P.tw.map fun p => defOf p.2.1.name p.2.2
def textOk (P : Pt) (sts : List Stmt) : Bool := decide (P.funs.length ≤ sts.length) && ((P.funs.zip sts).all fun p => fdOk P p.1.2 p.2) && (P.ws.all fun p => wordOk p.2) && P.tw.all fun p => tfOk P p.2.1 p.2.2
abbrev AlB : Type := He.AlD × Bool
def obsB (n : Nat) (P : Pt) (sts : List Stmt) (g : Addr → Option Obj) : AlB := (He.obsD [] (fnsOf P sts) (He.frG g (He.asD g n)), exB P (He.frG g (He.asD g n)))
def hookB (n : Nat) (P : Pt) (sts : List Stmt) : PySem.W.Hook where
  α := AlB
  obs := fun s => obsB n P sts s.heap.get?
  val := fun _ => (He.valD (fnsOf P sts), true)
  says := fun _ h => ∃ K : PySem.W.Frag, K.In h ∧ He.SaysD [] (fnsOf P sts) K ∧ exB P K = true
  of := fun _ s e => ⟨_, He.frG_in, congrArg (fun z : AlB => z.1) e, congrArg (fun z : AlB => z.2) e⟩
  keeps := fun _ _ _ ⟨K, hK, c⟩ k => ⟨K, PySem.W.Frag.In.keeps hK k, c⟩
theorem obsB_eq {n : Nat} {P : Pt} {sts : List Stmt} {g : Addr → Option Obj} {s : Shared} (h : ∀ a, g a = s.heap.get? a) : obsB n P sts g = (hookB n P sts).obs s := by
  have e : g = s.heap.get? := funext h
  rw [e] <;> rfl
theorem look_mem {α : Type} {i : Nat} {c : α} : ∀ (l : List (Nat × α)), l.lookup i = some c → (i, c) ∈ l
  | [], h => by cases h
  | (j, b) :: l, h => by
    rw [List.lookup_cons] at h
    split at h
    · rename_i z
      cases Option.some.inj h
      have : i = j := by simpa using z
      rw [this]
      exact List.mem_cons_self
    · exact List.mem_cons_of_mem _ (look_mem l h)
theorem look_filter {α : Type} {g : Nat → Bool} {i : Nat} {c : α} : ∀ (l : List (Nat × α)), (l.filter fun p => g p.1).lookup i = some c → l.lookup i = some c
  | [], h => by cases h
  | (j, b) :: l, h => by
    by_cases hij : i = j
    · subst hij
      rw [List.filter_cons] at h
      split at h
      · simpa using h
      · rename_i hg
        exfalso
        have : ∀ l : List (Nat × α), (l.filter fun p => g p.1).lookup i = some c → g i = true := by
          intro l
          induction l with
          | nil => intro z; cases z
          | cons q l ih =>
            intro z
            rw [List.filter_cons] at z
            split at z
            · rename_i hq
              obtain ⟨q1, q2⟩ := q
              by_cases e : i = q1
              · rw [e]; exact hq
              · rw [List.lookup_cons] at z
                have e2 : (i == q1) = false := by simpa using e
                rw [e2] at z
                exact ih z
            · exact ih z
        exact hg (this l h)
    · have e2 : (i == j) = false := by simpa using hij
      rw [List.lookup_cons, e2]
      rw [List.filter_cons] at h
      split at h
      · rw [List.lookup_cons, e2] at h
        exact look_filter l h
      · exact look_filter l h
theorem binds_of {K : PySem.W.Frag} {x : Str} {args : Arguments} {body : List Stmt} {scope : Scope} {a : Addr} {data : FuncData} {ps : List Str} (F : FunD K x x args body scope [] [] a data) (k1 : plainArgs args = true) (k2 : args.args.map (·.arg) = ps) (nd : ps.Nodup) (s : Shared) (us : List Value) (hu : us.length = ps.length) : BindsTo s data ⟨us, []⟩ (ps.zip us) := by
  have hal : args.args.length = ps.length := by rw [← k2, List.length_map]
  refine FunD.bindsA F (fun kV doc pm an cdv ct us hu => ?_) s us (by rw [hu])
  have e := plainArgs_ok k1
  rw [e, bind_plain _ us (by rw [k2]; exact nd) (by rw [hu, hal]), k2]
theorem ec_some {P : Pt} {K : PySem.W.Frag} {c : Nat} {x : Str} (h : P.exc c = some x) : ecOf P K c = He.ga K x := by unfold ecOf; rw [h]
theorem excC_ok {K : PySem.W.Frag} {D : Addr} (h : excC K D = true) : ExcC K D ∧ PySem.W.kitOne K (.ref D) (.type "ValueError") = some true := by
  simp only [excC, Bool.and_eq_true, decide_eq_true_eq] at h
  obtain ⟨⟨⟨⟨⟨⟨⟨⟨h1, h2⟩, h3⟩, h4⟩, h5⟩, h6⟩, h7⟩, h8⟩, h9⟩ := h
  exact ⟨⟨He.eqO_ok h1, He.eqO_ok h2, h3, h4, He.eqO_ok h5, He.eqO_ok h6, h7, h8⟩, h9⟩
theorem txt_of {U : Pt} {cs fs es : List Nat} {ws : List (Str × Stmt)} {P : Pt} (hC : P.consts = (U.only cs fs es ws).consts) (hF : P.funs = (U.only cs fs es ws).funs) (hT : ∀ f fd st, (f, fd, st) ∈ P.tw → U.fn f = some fd) {sts : List Stmt} {K : PySem.W.Frag} {h : Heap} {mg : Str → Option Value} (X : K.In h) (G : h.Ns mainGlobals mg) (c : He.SaysD [] (fnsOf P sts) K) (e : exB P K = true) (ht : textOk P sts = true) : Txt U P K mg (ecOf P K) := by
  simp only [exB, Bool.and_eq_true] at e
  obtain ⟨⟨⟨⟨⟨⟨x1, x2⟩, e1⟩, e4⟩, e2⟩, e3⟩, e5⟩ := e
  simp only [textOk, Bool.and_eq_true, decide_eq_true_eq] at ht
  obtain ⟨⟨⟨t1, t2⟩, t3⟩, t4⟩ := ht
  have inx : ∀ (d : Nat) x, P.exc d = some x → (d, x) ∈ P.excs := fun d x hd => look_mem _ hd
  have two : ∀ (d : Nat) x, P.exc d = some x → ∀ c, ∃ c', ecOf P K c = ecOf P K c' ∧ subE c d = subE c' d ∧ ∃ y, P.exc c' = some y := fun d x hd c => by
    cases hc : P.exc c with
    | some y => exact ⟨c, rfl, rfl, y, hc⟩
    | none =>
      have h0 : P.exc 0 = some "BarError" := by
        simp only [exmB, Bool.or_eq_true, Bool.and_eq_true, decide_eq_true_eq] at x2
        rcases x2 with q | q
        · have := inx d x hd
          rw [List.isEmpty_iff.mp q] at this
          cases this
        · exact q.1
      refine ⟨0, ?_, ?_, _, h0⟩
      · rw [ec_some h0]
        unfold ecOf
        rw [hc]
      · have hne : c ≠ d := fun z => by rw [z, hd] at hc; cases hc
        unfold subE
        rw [decide_eq_false hne]
        by_cases z : d = 0
        · subst z; rfl
        · rw [decide_eq_false z, decide_eq_false (fun w => z w.symm)]
  have pair : ∀ (c d : Nat) y x, P.exc c = some y → P.exc d = some x → PySem.W.exmOne K (.ref (ecOf P K c)) (.ref (ecOf P K d)) = some (subE c d) ∧ PySem.W.kitOne K (.ref (ecOf P K c)) (.ref (ecOf P K d)) = some (subE c d) := fun c d y x hc hd => by
    simp only [exmB, Bool.or_eq_true, Bool.and_eq_true] at x2
    rcases x2 with q | q
    · have := inx d x hd
      rw [List.isEmpty_iff.mp q] at this
      cases this
    · have r := List.all_eq_true.mp (List.all_eq_true.mp q.2 _ (inx c y hc)) _ (inx d x hd)
      simp only [Bool.and_eq_true, decide_eq_true_eq] at r
      exact r
  have fact : ∀ (d : Nat) x, P.exc d = some x → exc1 K x = true ∧ excC K (ecOf P K d) = true := fun d x hd => by
    have q := List.all_eq_true.mp x1 _ (inx d x hd)
    simpa only [Bool.and_eq_true] using q
  refine ⟨fun i c hc => ?_, fun i c hc => ?_, fun c x hc => ?_, fun c d x hd => ?_, fun c d x hd => ?_, fun p hp => ?_, fun f fd hf => ?_, fun f fd st hf => ?_, fun i cc hc => ?_, fun x hx => ?_, fun i cc a hc hd hm => ?_⟩
  · have h2 : P.consts.lookup i = some c := hc
    rw [hC] at h2
    exact look_filter _ h2
  · have h2 : P.funs.lookup i = some c := hc
    rw [hF] at h2
    exact look_filter _ h2
  · obtain ⟨q, _⟩ := fact c x hc
    rw [ec_some hc]
    simp only [exc1, Bool.and_eq_true] at q
    obtain ⟨r1, r2, r3, r4⟩ := He.exc_ok q.2
    exact ⟨PySem.W.mg_of X G (He.eqO_ok q.1), r2, r1, r3, r4⟩
  · obtain ⟨c', q1, q2, y, q3⟩ := two d x hd c
    rw [q1, q2]
    exact (pair c' d y x q3 hd).1
  · obtain ⟨c', q1, q2, y, q3⟩ := two d x hd c
    rw [q1, q2]
    obtain ⟨r1, r2⟩ := excC_ok (fact c' y q3).2
    exact ⟨r1, (pair c' d y x q3 hd).2, r2⟩
  · have q := List.all_eq_true.mp e4 p hp
    have ok := List.all_eq_true.mp t3 p hp
    have hm : defOf p.1 p.2 ∈ fnsOf P sts := List.mem_append_left _ (List.mem_append_right _ (List.mem_map.mpr ⟨p, hp, rfl⟩))
    obtain ⟨j, hj⟩ := List.mem_iff_getElem?.mp hm
    obtain ⟨data, F⟩ := c.def_ j (d := defOf p.1 p.2) hj
    refine ⟨_, data, ok, PySem.W.mg_of X G (He.eqO_ok q), F.kp, F, fun s u => ?_⟩
    simp only [wordOk, Bool.and_eq_true] at ok
    have k := ok.1.1
    simp only [wordOk.plainW, Bool.and_eq_true, decide_eq_true_eq] at k
    refine binds_of (ps := ["kept"]) F ?_ k.2 (by decide) s [u] rfl
    simp only [plainArgs, Bool.and_eq_true]
    exact k.1
  · have hin : (f, fd) ∈ P.funs := look_mem _ hf
    obtain ⟨j, hj⟩ := List.mem_iff_getElem?.mp hin
    have hfl : j < P.funs.length := (List.getElem?_eq_some_iff.mp hj).1
    have hs : sts[j]? = some sts[j] := List.getElem?_eq_getElem (by omega)
    have hz : (P.funs.zip sts)[j]? = some ((f, fd), sts[j]'(by omega)) := by
      rw [List.getElem?_zip_eq_some]
      exact ⟨hj, hs⟩
    have ok := List.all_eq_true.mp t2 _ (List.mem_of_getElem? hz)
    have hm : defOf fd.name sts[j] ∈ fnsOf P sts := List.mem_append_left _ (List.mem_append_left _ (List.mem_map.mpr ⟨_, List.mem_of_getElem? hz, rfl⟩))
    obtain ⟨m, hm⟩ := List.mem_iff_getElem?.mp hm
    obtain ⟨data, F⟩ := c.def_ m (d := defOf fd.name sts[j]) hm
    refine ⟨sts[j], _, data, ok, ?_, F⟩
    have q := He.eqO_ok (List.all_eq_true.mp e1 _ hin)
    exact PySem.W.mg_of X G q
  · have hm : defOf fd.name st ∈ fnsOf P sts := List.mem_append_right _ (List.mem_map.mpr ⟨_, hf, rfl⟩)
    obtain ⟨m, hm⟩ := List.mem_iff_getElem?.mp hm
    obtain ⟨data, F⟩ := c.def_ m (d := defOf fd.name st) hm
    have q : He.eqO (PySem.W.nsIn K mainGlobals fd.name) (some (some (.ref (He.ga K fd.name)))) = true := List.all_eq_true.mp e5 (f, fd, st) hf
    have q2 : tfOk P fd st = true := List.all_eq_true.mp t4 (f, fd, st) hf
    exact ⟨hT f fd st hf, q2, He.ga K fd.name, data, PySem.W.mg_of X G (He.eqO_ok q), F⟩
  · have q := List.all_eq_true.mp e2 _ (look_mem _ hc)
    unfold conB at q
    split at q
    · rename_i u eu
      obtain ⟨v, r, p⟩ := vD_ok (mg := mg) cc.2 q
      exact ⟨v, u, PySem.W.mg_of X G eu, r, p⟩
    · cases q
  · exact PySem.W.mg_none_of X G (He.eqO_ok (List.all_eq_true.mp e3 x hx))
  · have q := List.all_eq_true.mp e2 _ (look_mem _ hc)
    obtain ⟨ds, hd⟩ := hd
    unfold conB at q
    split at q
    · rename_i u eu
      have e4 := PySem.W.mg_of X G eu
      rw [hm] at e4
      cases e4
      rw [hd] at q
      simp only [vD] at q
      split at q
      · rename_i T its n sl e5
        simp only [Bool.and_eq_true, decide_eq_true_eq] at q
        obtain ⟨⟨rfl, _⟩, _⟩ := q
        exact ⟨_, e5, rfl, rfl⟩
      · cases q
    · cases q
theorem walk_law {l : PySem.W.OpenLaw} {m n lf : Nat} {U : Pt} {cs fs es : List Nat} {ws : List (Str × Stmt)} {P : Pt} (hC : P.consts = (U.only cs fs es ws).consts) (hF : P.funs = (U.only cs fs es ws).funs) (hT : ∀ f fd st, (f, fd, st) ∈ P.tw → U.fn f = some fd) {sts : List Stmt} {q : Program} {loose : List Str} {XP : (Str → Option Value) → Heap → Prop} {d : PySem.DefRec} {fd : Fd} {x : Str}
    (hn : l.most = some 63) (hdf : d.params.defaults = []) (hr : Room n callerA) (hfd : P.fn lf = some fd) (hname : d.name = fd.name) (hx : fd.N.take fd.par = [x]) (hp : fd.par = 1) (ht : textOk P sts = true)
    (hl : ∀ ns : List Int, ns.length ≤ 63 → callD U n lf [scrD ns] = .ok (.bool true)) :
    PySem.W.WalkO q loose XP (hookB m P sts).says l.row.toRowW d [] (fun f vs => PySem.call f vs) := by
  refine Att.attach_call hn hdf fun w s₀ s₁ mg mb fa o pm cd doc a vs ns G Y ho hd hcd hmg hobj hints hlen hg => ?_
  obtain ⟨K, KX, c, e⟩ := Y
  have T := txt_of (mg := mg) hC hF hT KX G.T.g c e ht
  obtain ⟨st, a', data, ok, hg', F⟩ := T.fns lf fd hfd
  have hmg' : mg fd.name = some (.ref fa) := by rw [← hname]; exact hmg
  have ea := hmg'.symm.trans hg'
  cases ea
  have key : ∀ base : Heap, _ := fun base => fn_at (prog := l.prog) (w := w) (base := base) (ec := ecOf P K) T n lf fd st fa data hfd ok hg' F
  rw [hx] at key
  refine law_call (CX := L2.CX l.prog w) (sp := spD K mg ⟨U, P, callD U n, ecOf P K⟩ fd.par lf) KX G.T.g G.T.b G.T.builtins G.T.nolimit hg hobj hints (Nat.le_trans hlen (by decide)) hr (fun base _ _ => (key base).2.2) (fun s u => (key default).2.1 s [u] rfl) (fun H hO hS => ?_) fun H e s' z => ?_
  · refine ⟨by rw [hp]; rfl, H, [scrD ns], Same.refl _, .cons (.scr hS) .nil, ?_⟩
    show match callD U n lf [scrD ns] with | .ok d => _ | .ex c => _ | .no => _
    rw [hl ns hlen]
    intro v H' G' _ r
    cases r
    rfl
  · obtain ⟨_, _, _, _, _, _, _, _, _, _, _, _, z⟩ := z
    exact z
end Bg

set_option Elab.async false
set_option linter.all false
set_option maxRecDepth 100000
set_option maxHeartbeats 4000000
/-! A def's run. -/
namespace Bg
open PySem
def fin : Out → Res D
  | .nx _ => .ok .none
  | .ret d => .ok d
  | .ex c _ => .ex c
  | .no => .no
theorem fin_nx (ρ : List Sl) : fin (.nx ρ) = .ok .none := rfl
theorem fin_ret (d : D) : fin (.ret d) = .ok d := rfl
theorem fin_ex (c : Nat) (ρ : List Sl) : fin (.ex c ρ) = .ex c := rfl
theorem call_run {P : Pt} {n f : Nat} {fd : Fd} {ds : List D} (hf : P.fn f = some fd) (h : ds.length = fd.par ∧ fd.par ≤ fd.N.length) : callD P (n + 1) f ds = fin (evSs P (callD P n) (ds.map .val ++ List.replicate (fd.N.length - ds.length) .no) fd.body) := by
  simp only [callD, hf, runF, if_pos h]
  rfl
theorem call_at {P : Pt} {n f : Nat} {name : Str} {par : Nat} {N : List Str} {body : Sxs} {ds : List D} {ρ : List Sl} (hf : P.fn f = some ⟨name, par, N, body⟩) (h1 : ds.length = par) (h2 : par ≤ N.length) (hρ : ds.map .val ++ List.replicate (N.length - ds.length) .no = ρ) : callD P (n + 1) f ds = fin (evSs P (callD P n) ρ body) := by
  subst hρ
  exact call_run hf ⟨h1, h2⟩
theorem LEN : (type_of% @List.length_append.{0}) ∧ (type_of% @List.length_cons.{0}) ∧ (type_of% @List.length_nil.{0}) ∧ (type_of% @List.length_map.{0,0}) ∧ (type_of% @List.length_replicate.{0}) ∧ (type_of% @List.length_reverse.{0}) ∧ (type_of% @List.length_take.{0}) ∧ (type_of% @List.length_drop.{0}) ∧ (type_of% @List.length_range) ∧ (type_of% @List.length_zip.{0,0}) ∧ (type_of% @List.length_zipIdx.{0}) := ⟨@List.length_append.{0}, @List.length_cons.{0}, @List.length_nil.{0}, @List.length_map.{0,0}, @List.length_replicate.{0}, @List.length_reverse.{0}, @List.length_take.{0}, @List.length_drop.{0}, @List.length_range, @List.length_zip.{0,0}, @List.length_zipIdx.{0}⟩
end Bg

set_option Elab.async false
set_option linter.all false
set_option maxRecDepth 100000
set_option maxHeartbeats 4000000
/-! One table of all defs and constants. -/
namespace Bg
open PySem
def C_MOST_LONG : D := .int (199)
def C_MOST_WIDE : D := .int (9)
def C_MOST_SPOTS : D := .int (600)
def C_FIGURES : D := .str ⟨#[48, 49, 50, 51, 52, 53, 54, 55, 56, 57]⟩
def C_ODD : D := .tuple [.tuple [.int (3), .int (2), .int (1), .int (1)], .tuple [.int (2), .int (2), .int (2), .int (1)], .tuple [.int (2), .int (1), .int (2), .int (2)], .tuple [.int (1), .int (4), .int (1), .int (1)], .tuple [.int (1), .int (1), .int (3), .int (2)], .tuple [.int (1), .int (2), .int (3), .int (1)], .tuple [.int (1), .int (1), .int (1), .int (4)], .tuple [.int (1), .int (3), .int (1), .int (2)], .tuple [.int (1), .int (2), .int (1), .int (3)], .tuple [.int (3), .int (1), .int (1), .int (2)]]
def C_MANNERS : D := .tuple [.str ⟨#[111, 111, 111, 111, 111, 111]⟩, .str ⟨#[111, 111, 101, 111, 101, 101]⟩, .str ⟨#[111, 111, 101, 101, 111, 101]⟩, .str ⟨#[111, 111, 101, 101, 101, 111]⟩, .str ⟨#[111, 101, 111, 111, 101, 101]⟩, .str ⟨#[111, 101, 101, 111, 111, 101]⟩, .str ⟨#[111, 101, 101, 101, 111, 111]⟩, .str ⟨#[111, 101, 111, 101, 111, 101]⟩, .str ⟨#[111, 101, 111, 101, 101, 111]⟩, .str ⟨#[111, 101, 101, 111, 101, 111]⟩]
def C_SIDE : D := .tuple [.int (1), .int (1), .int (1)]
def C_MIDDLE : D := .tuple [.int (1), .int (1), .int (1), .int (1), .int (1)]
def C_WIDTHS : D := .int (59)
def C_FIVES : D := .tuple [.str ⟨#[110, 110, 119, 119, 110]⟩, .str ⟨#[119, 110, 110, 110, 119]⟩, .str ⟨#[110, 119, 110, 110, 119]⟩, .str ⟨#[119, 119, 110, 110, 110]⟩, .str ⟨#[110, 110, 119, 110, 119]⟩, .str ⟨#[119, 110, 119, 110, 110]⟩, .str ⟨#[110, 119, 119, 110, 110]⟩, .str ⟨#[110, 110, 110, 119, 119]⟩, .str ⟨#[119, 110, 110, 119, 110]⟩, .str ⟨#[110, 119, 110, 119, 110]⟩]
def C_FRONT : D := .tuple [.int (1), .int (1), .int (1), .int (1)]
def C_MOST_FIGURES : D := .int (20)
def C_WIDES : D := .tuple [.int (2), .int (3)]
def C_SMALL : D := .str ⟨#[97, 98, 99, 100, 101, 102, 103, 104, 105, 106, 107, 108, 109, 110, 111, 112, 113, 114, 115, 116, 117, 118, 119, 120, 121, 122, 32, 48, 49, 50, 51, 52, 53, 54, 55, 56, 57, 46, 44, 58, 59, 33, 63, 45, 43, 42, 47, 40, 41, 61]⟩
def C_GREAT : D := .str ⟨#[65, 66, 67, 68, 69, 70, 71, 72, 73, 74, 75, 76, 77, 78, 79, 80, 81, 82, 83, 84, 85, 86, 87, 88, 89, 90, 32, 48, 49, 50, 51, 52, 53, 54, 55, 56, 57, 46, 44, 58, 59, 33, 63, 45, 43, 42, 47, 40, 41, 61]⟩
def C_SETS : D := .tuple [.str ⟨#[115, 109, 97, 108, 108]⟩, .str ⟨#[103, 114, 101, 97, 116]⟩, .str ⟨#[100, 111, 117, 98, 108, 101]⟩]
def C_LEADS : D := .int (100)
def C_SHIFT : D := .int (103)
def C_BEGINS : D := .int (104)
def C_END : D := .int (107)
def C_LAST : D := .tuple [.int (2)]
def C_BY : D := .int (103)
def C_SIGNS : D := .tuple [.str ⟨#[49, 49, 49, 49, 52, 51]⟩, .str ⟨#[49, 49, 49, 50, 50, 52]⟩, .str ⟨#[49, 49, 49, 50, 52, 50]⟩, .str ⟨#[49, 49, 49, 51, 50, 51]⟩, .str ⟨#[49, 49, 49, 51, 52, 49]⟩, .str ⟨#[49, 49, 49, 52, 50, 50]⟩, .str ⟨#[49, 49, 50, 49, 51, 51]⟩, .str ⟨#[49, 49, 50, 50, 49, 52]⟩, .str ⟨#[49, 49, 50, 50, 51, 50]⟩, .str ⟨#[49, 49, 50, 51, 49, 51]⟩, .str ⟨#[49, 49, 50, 51, 51, 49]⟩, .str ⟨#[49, 49, 50, 52, 49, 50]⟩, .str ⟨#[49, 49, 51, 49, 50, 51]⟩, .str ⟨#[49, 49, 51, 49, 52, 49]⟩, .str ⟨#[49, 49, 51, 50, 50, 50]⟩, .str ⟨#[49, 49, 51, 51, 50, 49]⟩, .str ⟨#[49, 49, 52, 49, 49, 51]⟩, .str ⟨#[49, 49, 52, 49, 51, 49]⟩, .str ⟨#[49, 49, 52, 50, 49, 50]⟩, .str ⟨#[49, 49, 52, 51, 49, 49]⟩, .str ⟨#[49, 50, 49, 49, 50, 52]⟩, .str ⟨#[49, 50, 49, 49, 52, 50]⟩, .str ⟨#[49, 50, 49, 50, 50, 51]⟩, .str ⟨#[49, 50, 49, 50, 52, 49]⟩, .str ⟨#[49, 50, 49, 51, 50, 50]⟩, .str ⟨#[49, 50, 49, 52, 50, 49]⟩, .str ⟨#[49, 50, 50, 49, 49, 52]⟩, .str ⟨#[49, 50, 50, 49, 51, 50]⟩, .str ⟨#[49, 50, 50, 50, 49, 51]⟩, .str ⟨#[49, 50, 50, 50, 51, 49]⟩, .str ⟨#[49, 50, 50, 51, 49, 50]⟩, .str ⟨#[49, 50, 50, 52, 49, 49]⟩, .str ⟨#[49, 50, 51, 49, 50, 50]⟩, .str ⟨#[49, 50, 51, 50, 50, 49]⟩, .str ⟨#[49, 50, 52, 49, 49, 50]⟩, .str ⟨#[49, 50, 52, 50, 49, 49]⟩, .str ⟨#[49, 51, 49, 49, 50, 51]⟩, .str ⟨#[49, 51, 49, 49, 52, 49]⟩, .str ⟨#[49, 51, 49, 50, 50, 50]⟩, .str ⟨#[49, 51, 49, 51, 50, 49]⟩, .str ⟨#[49, 51, 50, 49, 49, 51]⟩, .str ⟨#[49, 51, 50, 49, 51, 49]⟩, .str ⟨#[49, 51, 50, 50, 49, 50]⟩, .str ⟨#[49, 51, 50, 51, 49, 49]⟩, .str ⟨#[49, 51, 51, 49, 50, 49]⟩, .str ⟨#[49, 51, 52, 49, 49, 49]⟩, .str ⟨#[49, 52, 49, 49, 50, 50]⟩, .str ⟨#[49, 52, 49, 50, 50, 49]⟩, .str ⟨#[49, 52, 50, 49, 49, 50]⟩, .str ⟨#[49, 52, 50, 50, 49, 49]⟩, .str ⟨#[50, 49, 49, 49, 51, 51]⟩, .str ⟨#[50, 49, 49, 50, 49, 52]⟩, .str ⟨#[50, 49, 49, 50, 51, 50]⟩, .str ⟨#[50, 49, 49, 51, 49, 51]⟩, .str ⟨#[50, 49, 49, 51, 51, 49]⟩, .str ⟨#[50, 49, 49, 52, 49, 50]⟩, .str ⟨#[50, 49, 50, 49, 50, 51]⟩, .str ⟨#[50, 49, 50, 49, 52, 49]⟩, .str ⟨#[50, 49, 50, 50, 50, 50]⟩, .str ⟨#[50, 49, 50, 51, 50, 49]⟩, .str ⟨#[50, 49, 51, 49, 49, 51]⟩, .str ⟨#[50, 49, 51, 49, 51, 49]⟩, .str ⟨#[50, 49, 51, 50, 49, 50]⟩, .str ⟨#[50, 49, 51, 51, 49, 49]⟩, .str ⟨#[50, 49, 52, 49, 50, 49]⟩, .str ⟨#[50, 50, 49, 49, 49, 52]⟩, .str ⟨#[50, 50, 49, 49, 51, 50]⟩, .str ⟨#[50, 50, 49, 50, 49, 51]⟩, .str ⟨#[50, 50, 49, 50, 51, 49]⟩, .str ⟨#[50, 50, 49, 51, 49, 50]⟩, .str ⟨#[50, 50, 49, 52, 49, 49]⟩, .str ⟨#[50, 50, 50, 49, 50, 50]⟩, .str ⟨#[50, 50, 50, 50, 50, 49]⟩, .str ⟨#[50, 50, 51, 49, 49, 50]⟩, .str ⟨#[50, 50, 51, 50, 49, 49]⟩, .str ⟨#[50, 51, 49, 49, 49, 51]⟩, .str ⟨#[50, 51, 49, 49, 51, 49]⟩, .str ⟨#[50, 51, 49, 50, 49, 50]⟩, .str ⟨#[50, 51, 49, 51, 49, 49]⟩, .str ⟨#[50, 51, 50, 49, 50, 49]⟩, .str ⟨#[50, 51, 51, 49, 49, 49]⟩, .str ⟨#[50, 52, 49, 49, 49, 50]⟩, .str ⟨#[50, 52, 49, 50, 49, 49]⟩, .str ⟨#[51, 49, 49, 49, 50, 51]⟩, .str ⟨#[51, 49, 49, 49, 52, 49]⟩, .str ⟨#[51, 49, 49, 50, 50, 50]⟩, .str ⟨#[51, 49, 49, 51, 50, 49]⟩, .str ⟨#[51, 49, 50, 49, 49, 51]⟩, .str ⟨#[51, 49, 50, 49, 51, 49]⟩, .str ⟨#[51, 49, 50, 50, 49, 50]⟩, .str ⟨#[51, 49, 50, 51, 49, 49]⟩, .str ⟨#[51, 49, 51, 49, 50, 49]⟩, .str ⟨#[51, 49, 52, 49, 49, 49]⟩, .str ⟨#[51, 50, 49, 49, 50, 50]⟩, .str ⟨#[51, 50, 49, 50, 50, 49]⟩, .str ⟨#[51, 50, 50, 49, 49, 50]⟩, .str ⟨#[51, 50, 50, 50, 49, 49]⟩, .str ⟨#[51, 51, 49, 49, 50, 49]⟩, .str ⟨#[51, 51, 50, 49, 49, 49]⟩, .str ⟨#[52, 49, 49, 49, 49, 51]⟩, .str ⟨#[52, 49, 49, 49, 51, 49]⟩, .str ⟨#[52, 49, 49, 50, 49, 50]⟩, .str ⟨#[52, 49, 49, 51, 49, 49]⟩, .str ⟨#[52, 49, 50, 49, 50, 49]⟩, .str ⟨#[52, 49, 51, 49, 49, 49]⟩, .str ⟨#[52, 50, 49, 49, 49, 50]⟩, .str ⟨#[52, 50, 49, 50, 49, 49]⟩, .str ⟨#[52, 51, 49, 49, 49, 49]⟩]
def C_MOST_SIGNS : D := .int (24)
def C_THIRTEEN_SPOTS : D := .int (95)
def C_RIMS : D := .tuple [.tuple [.str ⟨#[116, 104, 105, 114, 116, 101, 101, 110]⟩, .int (7)], .tuple [.str ⟨#[112, 97, 105, 114]⟩, .int (5)], .tuple [.str ⟨#[101, 108, 101, 118, 101, 110]⟩, .int (10)]]
def C_LEAST_RIM : D := .int (5)
def C_SURE : D := .int (10)
def C_KINDS : D := .tuple [.str ⟨#[116, 104, 105, 114, 116, 101, 101, 110]⟩, .str ⟨#[112, 97, 105, 114]⟩, .str ⟨#[101, 108, 101, 118, 101, 110]⟩]
def C_MOST_CODES : D := .int (6)
def C_RIM : D := .int (10)
/-! 0: is_whole(thing, low, high) -/
def b_is_whole : Sxs := .cons (.ret (.and (.bc .isi (.cons (.var 0) (.cons (.ty 0) (.nil)))) (.and (.not (.bc .isi (.cons (.var 0) (.cons (.ty 2) (.nil))))) (.one (.chn .le .le (.var 1) (.var 0) (.var 2)))))) (.nil)
def F_is_whole : Fd := ⟨"is_whole", 3, ["thing", "low", "high"], b_is_whole⟩
/-! 1: is_row(thing) -/
def b_is_row : Sxs := .cons (.ite (.or (.not (.bc .isi (.cons (.var 0) (.cons (.ty 3) (.nil))))) (.or (.cmp .eq (.bin .mod (.bc .len (.cons (.var 0) (.nil))) (.int 2)) (.int 0)) (.one (.cmp .gt (.bc .len (.cons (.var 0) (.nil))) (.con 0))))) (.cons (.ret (.bl false)) (.nil)) (.nil)) (.cons (.ret (.bc .all (.cons (.lc (.one 1) (.it (.var 0)) .no (.call 0 (.cons (.var 1) (.cons (.int 1) (.cons (.con 1) (.nil)))))) (.nil)))) (.nil))
def F_is_row : Fd := ⟨"is_row", 1, ["thing", "one"], b_is_row⟩
/-! 2: is_picture(thing) -/
def b_is_picture : Sxs := .cons (.ret (.and (.bc .isi (.cons (.var 0) (.cons (.ty 1) (.nil)))) (.and (.cmp .le (.bc .len (.cons (.var 0) (.nil))) (.con 2)) (.one (.bc .all (.cons (.lc (.one 1) (.it (.var 0)) .no (.cmp .isin (.var 1) (.str ⟨#[35, 46]⟩))) (.nil))))))) (.nil)
def F_is_picture : Fd := ⟨"is_picture", 1, ["thing", "sign"], b_is_picture⟩
/-! 3: _law_cell(script, k) -/
def b_law_cell : Sxs := .cons (.ite (.cmp .lt (.var 1) (.bc .len (.cons (.var 0) (.nil)))) (.cons (.ret (.sub (.var 0) (.var 1))) (.nil)) (.nil)) (.cons (.ret (.int 0)) (.nil))
def F_law_cell : Fd := ⟨"_law_cell", 2, ["script", "k"], b_law_cell⟩
/-! 4: _law_mix(cell, prime, many) -/
def b_law_mix : Sxs := .cons (.set 3 (.bin .mod (.bin .mul (.var 0) (.int 48271)) (.var 1))) (.cons (.ret (.bin .mod (.bin .mod (.bin .mul (.var 3) (.bin .add (.var 3) (.int 7))) (.var 1)) (.var 2))) (.nil))
def F_law_mix : Fd := ⟨"_law_mix", 3, ["cell", "prime", "many", "blend"], b_law_mix⟩
/-! 5: _law_row(cell, most, wide) -/
def b_law_row : Sxs := .cons (.set 3 (.bin .add (.int 1) (.bin .mul (.int 2) (.call 4 (.cons (.var 0) (.cons (.int 9973) (.cons (.var 1) (.nil)))))))) (.cons (.ret (.bc .tuple (.cons (.lc (.one 4) (.rng (.cons (.var 3) (.nil))) .no (.bin .add (.int 1) (.call 4 (.cons (.bin .add (.var 0) (.bin .mul (.int 7) (.var 4))) (.cons (.int 9967) (.cons (.var 2) (.nil))))))) (.nil)))) (.nil))
def F_law_row : Fd := ⟨"_law_row", 3, ["cell", "most", "wide", "long", "j"], b_law_row⟩
/-! 6: _law_spots(row) -/
def B_law_spots_1 : Sxs := .cons (.set 1 (.bin .add (.var 1) (.bin .mul (.sub (.tup (.cons (.str ⟨#[35]⟩) (.cons (.str ⟨#[46]⟩) (.nil)))) (.bin .mod (.var 2) (.int 2))) (.var 3)))) (.nil)
def b_law_spots : Sxs := .cons (.set 1 (.str ⟨#[]⟩)) (.cons (.for_ (.tup [2, 3]) (.enum (.var 0)) B_law_spots_1) (.cons (.ret (.var 1)) (.nil)))
def F_law_spots : Fd := ⟨"_law_spots", 1, ["row", "gathered", "k", "width"], b_law_spots⟩
/-! 7: _law_odd(thing, cell) -/
def b_law_odd : Sxs := .cons (.ite (.and (.bc .isi (.cons (.var 0) (.cons (.ty 3) (.nil)))) (.and (.cmp .ne (.var 0) (.tup (.nil))) (.one (.cmp .gt (.call 4 (.cons (.var 1) (.cons (.int 9781) (.cons (.int 5) (.nil))))) (.int 0))))) (.cons (.set 3 (.call 4 (.cons (.var 1) (.cons (.int 9769) (.cons (.bc .len (.cons (.var 0) (.nil))) (.nil)))))) (.cons (.ret (.bin .add (.bin .add (.sl (.var 0) .no (.some (.var 3))) (.tup (.cons (.call 7 (.cons (.sub (.var 0) (.var 3)) (.cons (.bin .add (.bin .add (.var 1) (.bin .mul (.int 31) (.var 3))) (.int 7)) (.nil)))) (.nil)))) (.sl (.var 0) (.some (.bin .add (.var 3) (.int 1))) .no))) (.nil))) (.nil)) (.cons (.set 2 (.lst (.cons (.non) (.cons (.bl true) (.cons (.bl false) (.cons (.int 0) (.cons (.int 1) (.cons (.neg (.int 1)) (.cons (.int 2) (.cons (.int 7) (.cons (.int 10) (.cons (.int 1000) (.cons (.str ⟨#[]⟩) (.cons (.str ⟨#[97]⟩) (.cons (.str ⟨#[65]⟩) (.cons (.tup (.nil)) (.cons (.tup (.cons (.str ⟨#[97]⟩) (.nil))) (.cons (.lst (.cons (.int 1) (.nil))) (.nil))))))))))))))))))) (.cons (.ite (.bc .isi (.cons (.var 0) (.cons (.ty 3) (.nil)))) (.cons (.set 2 (.bin .add (.var 2) (.bin .mul (.lst (.cons (.bc .list (.cons (.var 0) (.nil))) (.cons (.bin .add (.var 0) (.sl (.var 0) (.some (.neg (.int 1))) .no)) (.cons (.sl (.var 0) .no (.some (.neg (.int 1)))) (.cons (.sls (.var 0) .no .no (-1)) (.cons (.sl (.var 0) (.some (.int 1)) .no) (.cons (.tup (.cons (.var 0) (.nil))) (.nil)))))))) (.int 2)))) (.nil)) (.cons (.ite (.bc .isi (.cons (.var 0) (.cons (.ty 1) (.nil)))) (.cons (.set 2 (.bin .add (.var 2) (.bin .mul (.lst (.cons (.bin .add (.var 0) (.str ⟨#[97]⟩)) (.cons (.sl (.var 0) .no (.some (.neg (.int 1)))) (.cons (.mt .upper (.var 0) (.nil)) (.cons (.bin .add (.var 0) (.str ⟨#[32]⟩)) (.cons (.bin .mul (.var 0) (.int 2)) (.cons (.lst (.cons (.var 0) (.nil))) (.cons (.bin .add (.var 0) (.sl (.var 0) .no (.some (.int 1)))) (.nil))))))))) (.int 2)))) (.nil)) (.cons (.ite (.bc .isi (.cons (.var 0) (.cons (.ty 0) (.nil)))) (.cons (.set 2 (.bin .add (.var 2) (.bin .mul (.lst (.cons (.bin .add (.var 0) (.int 1)) (.cons (.bin .sub (.var 0) (.int 1)) (.cons (.bin .sub (.int 0) (.var 0)) (.cons (.tup (.cons (.var 0) (.nil))) (.cons (.bin .add (.var 0) (.int 2)) (.cons (.bin .mul (.var 0) (.int 2)) (.nil)))))))) (.int 2)))) (.nil)) (.nil)) (.nil))) (.nil))) (.cons (.ret (.sub (.var 2) (.call 4 (.cons (.var 1) (.cons (.int 9749) (.cons (.bc .len (.cons (.var 2) (.nil))) (.nil))))))) (.nil))))
def F_law_odd : Fd := ⟨"_law_odd", 2, ["thing", "cell", "some", "spot"], b_law_odd⟩
/-! 8: _law_is_row(thing) -/
def b_law_is_row : Sxs := .cons (.ite (.or (.not (.bc .isi (.cons (.var 0) (.cons (.ty 3) (.nil))))) (.or (.cmp .eq (.bin .mod (.bc .len (.cons (.var 0) (.nil))) (.int 2)) (.int 0)) (.one (.cmp .gt (.bc .len (.cons (.var 0) (.nil))) (.int 199))))) (.cons (.ret (.bl false)) (.nil)) (.nil)) (.cons (.ret (.cmp .eq (.lc (.one 1) (.it (.var 0)) (.some (.or (.not (.bc .isi (.cons (.var 1) (.cons (.ty 0) (.nil))))) (.or (.bc .isi (.cons (.var 1) (.cons (.ty 2) (.nil)))) (.one (.not (.chn .lt .lt (.int 0) (.var 1) (.int 10))))))) (.var 1)) (.lst (.nil)))) (.nil))
def F_law_is_row : Fd := ⟨"_law_is_row", 1, ["thing", "one"], b_law_is_row⟩
/-! 9: _law_is_picture(thing) -/
def b_law_is_picture : Sxs := .cons (.ret (.and (.bc .isi (.cons (.var 0) (.cons (.ty 1) (.nil)))) (.and (.cmp .lt (.bc .len (.cons (.var 0) (.nil))) (.int 601)) (.one (.cmp .eq (.lc (.one 1) (.it (.var 0)) (.some (.cmp .notin (.var 1) (.tup (.cons (.str ⟨#[35]⟩) (.cons (.str ⟨#[46]⟩) (.nil)))))) (.var 1)) (.lst (.nil))))))) (.nil)
def F_law_is_picture : Fd := ⟨"_law_is_picture", 1, ["thing", "sign"], b_law_is_picture⟩
/-! 10: law(script) -/
def B_law_1 : Sxs := .cons (.app 4 (.call 7 (.cons (.var 2) (.cons (.bin .add (.bin .add (.call 3 (.cons (.var 0) (.cons (.int 9) (.nil)))) (.bin .mul (.int 17) (.var 6))) (.bin .mul (.int 5) (.var 1))) (.nil))))) (.cons (.app 5 (.call 7 (.cons (.var 3) (.cons (.bin .add (.bin .add (.call 3 (.cons (.var 0) (.cons (.int 9) (.nil)))) (.bin .mul (.int 19) (.var 6))) (.bin .mul (.int 5) (.var 1))) (.nil))))) (.nil))
def B_law_2 : Sxs := .cons (.ite (.or (.and (.cmp .isnot (.var 8) (.bl true)) (.one (.var 9))) (.one (.and (.cmp .isnot (.var 8) (.bl false)) (.one (.not (.var 9)))))) (.cons (.ret (.bl false)) (.nil)) (.nil)) (.nil)
def B_law_3 : Sxs := .cons (.set 2 (.call 5 (.cons (.bin .add (.call 3 (.cons (.var 0) (.cons (.bin .mod (.var 1) (.int 9)) (.nil)))) (.bin .mul (.int 31) (.var 1))) (.cons (.int 12) (.cons (.int 9) (.nil)))))) (.cons (.set 3 (.call 6 (.cons (.var 2) (.nil)))) (.cons (.own 4 (.lst (.cons (.var 2) (.cons (.bc .list (.cons (.var 2) (.nil))) (.cons (.bin .add (.var 2) (.tup (.cons (.int 1) (.nil)))) (.cons (.bin .add (.var 2) (.tup (.cons (.int 1) (.cons (.int 10) (.nil))))) (.cons (.bin .add (.var 2) (.tup (.cons (.int 1) (.cons (.int 0) (.nil))))) (.nil)))))))) (.cons (.own 4 (.bin .add (.pk 4) (.lst (.cons (.bin .mul (.tup (.cons (.int 1) (.nil))) (.int 199)) (.cons (.bin .mul (.tup (.cons (.int 1) (.nil))) (.int 201)) (.cons (.tup (.nil)) (.cons (.tup (.cons (.bl true) (.nil))) (.cons (.non) (.nil))))))))) (.cons (.own 5 (.lst (.cons (.var 3) (.cons (.str ⟨#[]⟩) (.cons (.str ⟨#[46]⟩) (.cons (.bin .mul (.str ⟨#[35]⟩) (.int 600)) (.cons (.bin .mul (.str ⟨#[35]⟩) (.int 601)) (.nil)))))))) (.cons (.own 5 (.bin .add (.pk 5) (.lst (.cons (.bin .add (.var 3) (.str ⟨#[32]⟩)) (.cons (.bin .add (.var 3) (.str ⟨#[111]⟩)) (.cons (.bc .list (.cons (.var 3) (.nil))) (.cons (.non) (.cons (.int 3) (.nil))))))))) (.cons (.for_ (.one 6) (.rng (.cons (.int 16) (.nil))) B_law_1) (.cons (.frz 4) (.cons (.set 7 (.lc (.one 10) (.it (.var 4)) .no (.tup (.cons (.call 1 (.cons (.var 10) (.nil))) (.cons (.call 8 (.cons (.var 10) (.nil))) (.nil)))))) (.cons (.frz 5) (.cons (.for_ (.tup [8, 9]) (.it (.bin .add (.var 7) (.lc (.one 10) (.it (.var 5)) .no (.tup (.cons (.call 2 (.cons (.var 10) (.nil))) (.cons (.call 9 (.cons (.var 10) (.nil))) (.nil))))))) B_law_2) (.nil)))))))))))
def b_law : Sxs := .cons (.for_ (.one 1) (.rng (.cons (.int 12) (.nil))) B_law_3) (.cons (.ret (.bl true)) (.nil))
def F_law : Fd := ⟨"law", 1, ["script", "k", "row", "spots", "some", "pictures", "j", "pairs", "said", "due", "thing"], b_law⟩
/-! 11: total(row) -/
def b_total : Sxs := .cons (.ret (.bc .sum (.cons (.var 0) (.nil)))) (.nil)
def F_total : Fd := ⟨"total", 1, ["row"], b_total⟩
/-! 12: spots_of(row) -/
def b_spots_of : Sxs := .cons (.ret (.mt .join (.str ⟨#[]⟩) (.cons (.lc (.tup [1, 2]) (.enum (.var 0)) .no (.bin .mul (.sub (.str ⟨#[35, 46]⟩) (.bin .mod (.var 1) (.int 2))) (.var 2))) (.nil)))) (.nil)
def F_spots_of : Fd := ⟨"spots_of", 1, ["row", "k", "width"], b_spots_of⟩
/-! 13: picture_of(row, rim) -/
def b_picture_of : Sxs := .cons (.ret (.bin .add (.bin .add (.bin .mul (.str ⟨#[46]⟩) (.var 1)) (.call 12 (.cons (.var 0) (.nil)))) (.bin .mul (.str ⟨#[46]⟩) (.var 1)))) (.nil)
def F_picture_of : Fd := ⟨"picture_of", 2, ["row", "rim"], b_picture_of⟩
/-! 14: runs(picture) -/
def B_runs_1 : Sxs := .cons (.ite (.and (.cmp .gt (.var 2) (.int 0)) (.one (.cmp .eq (.sub (.var 0) (.bin .sub (.var 2) (.int 1))) (.var 3)))) (.cons (.seti 1 (.neg (.int 1)) (.bin .add (.sub (.pk 1) (.neg (.int 1))) (.int 1))) (.nil)) (.cons (.app 1 (.int 1)) (.nil))) (.nil)
def b_runs : Sxs := .cons (.own 1 (.lst (.nil))) (.cons (.for_ (.tup [2, 3]) (.enum (.var 0)) B_runs_1) (.cons (.ret (.bc .tuple (.cons (.pk 1) (.nil)))) (.nil)))
def F_runs : Fd := ⟨"runs", 1, ["picture", "found", "k", "sign"], b_runs⟩
/-! 15: row_of(picture) -/
def b_row_of : Sxs := .cons (.set 1 (.mt .strip (.var 0) (.cons (.str ⟨#[46]⟩) (.nil)))) (.cons (.ite (.cmp .eq (.var 1) (.str ⟨#[]⟩)) (.cons (.raise 1) (.nil)) (.nil)) (.cons (.ret (.call 14 (.cons (.var 1) (.nil)))) (.nil)))
def F_row_of : Fd := ⟨"row_of", 1, ["picture", "inner"], b_row_of⟩
/-! 16: turned(row) -/
def b_turned : Sxs := .cons (.ret (.sls (.var 0) .no .no (-1))) (.nil)
def F_turned : Fd := ⟨"turned", 1, ["row"], b_turned⟩
/-! 17: wider(row, times) -/
def b_wider : Sxs := .cons (.ret (.bc .tuple (.cons (.lc (.one 2) (.it (.var 0)) .no (.bin .mul (.var 2) (.var 1))) (.nil)))) (.nil)
def F_wider : Fd := ⟨"wider", 2, ["row", "times", "width"], b_wider⟩
/-! 18: bars(row) -/
def b_bars : Sxs := .cons (.ret (.sls (.var 0) (.some (.int 0)) .no (2))) (.nil)
def F_bars : Fd := ⟨"bars", 1, ["row"], b_bars⟩
/-! 19: gaps(row) -/
def b_gaps : Sxs := .cons (.ret (.sls (.var 0) (.some (.int 1)) .no (2))) (.nil)
def F_gaps : Fd := ⟨"gaps", 1, ["row"], b_gaps⟩
/-! 20: _law_same(gathered, due) -/
def b_law_same : Sxs := .cons (.ite (.bc .isi (.cons (.var 1) (.cons (.ty 3) (.nil)))) (.cons (.ite (.or (.not (.bc .isi (.cons (.var 0) (.cons (.ty 3) (.nil))))) (.one (.cmp .ne (.bc .len (.cons (.var 0) (.nil))) (.bc .len (.cons (.var 1) (.nil)))))) (.cons (.ret (.bl false)) (.nil)) (.nil)) (.cons (.ret (.bc .all (.cons (.lc (.tup [2, 3]) (.zip (.var 0) (.var 1)) .no (.call 20 (.cons (.var 2) (.cons (.var 3) (.nil))))) (.nil)))) (.nil))) (.nil)) (.cons (.ite (.cmp .is (.var 1) (.non)) (.cons (.ret (.cmp .is (.var 0) (.non))) (.nil)) (.nil)) (.cons (.ite (.or (.bc .isi (.cons (.var 1) (.cons (.ty 2) (.nil)))) (.one (.bc .isi (.cons (.var 0) (.cons (.ty 2) (.nil)))))) (.cons (.ret (.and (.bc .isi (.cons (.var 1) (.cons (.ty 2) (.nil)))) (.and (.bc .isi (.cons (.var 0) (.cons (.ty 2) (.nil)))) (.one (.cmp .eq (.var 0) (.var 1)))))) (.nil)) (.nil)) (.cons (.ret (.and (.bc .isi (.cons (.var 0) (.cons (.tup (.cons (.ty 0) (.cons (.ty 1) (.nil)))) (.nil)))) (.one (.cmp .eq (.var 0) (.var 1))))) (.nil))))
def F_law_same : Fd := ⟨"_law_same", 2, ["gathered", "due", "one", "other"], b_law_same⟩
/-! 21: _law_runs(spots) -/
def B_law_runs_1 : Sxs := .cons (.ite (.cmp .eq (.var 1) (.var 3)) (.cons (.seti 2 (.neg (.int 1)) (.bin .add (.sub (.pk 2) (.neg (.int 1))) (.int 1))) (.nil)) (.cons (.app 2 (.int 1)) (.nil))) (.cons (.set 3 (.var 1)) (.nil))
def b_law_runs : Sxs := .cons (.par [(2, true), (3, false)] (.cons (.lst (.nil)) (.cons (.str ⟨#[]⟩) (.nil)))) (.cons (.for_ (.one 1) (.it (.var 0)) B_law_runs_1) (.cons (.ret (.bc .tuple (.cons (.pk 2) (.nil)))) (.nil)))
def F_law_runs : Fd := ⟨"_law_runs", 1, ["spots", "sign", "gathered", "last"], b_law_runs⟩
/-! 23: _law_said(picture) -/
def b_law_said : Sxs := .cons (.tryw (.cons (.ret (.call 15 (.cons (.var 0) (.nil)))) (.nil)) 0 1) (.nil)
def F_law_said : Fd := ⟨"_law_said", 1, ["picture", "e"], b_law_said⟩
/-! 24: law(script) -/
def B_law_k02_1 : Sxs := .cons (.set 2 (.bin .add (.call 3 (.cons (.var 0) (.cons (.bin .mod (.var 1) (.int 9)) (.nil)))) (.bin .mul (.int 31) (.var 1)))) (.cons (.par [(11, false), (12, false)] (.cons (.call 5 (.cons (.var 2) (.cons (.int 20) (.cons (.int 9) (.nil))))) (.cons (.call 4 (.cons (.bin .add (.call 3 (.cons (.var 0) (.cons (.int 9) (.nil)))) (.var 1)) (.cons (.int 9887) (.cons (.int 21) (.nil))))) (.nil)))) (.cons (.set 3 (.call 6 (.cons (.var 11) (.nil)))) (.cons (.set 4 (.bin .add (.bin .add (.bin .mul (.str ⟨#[46]⟩) (.var 12)) (.var 3)) (.bin .mul (.str ⟨#[46]⟩) (.var 12)))) (.cons (.ite (.not (.call 20 (.cons (.tup (.cons (.call 13 (.cons (.var 11) (.cons (.var 12) (.nil)))) (.cons (.call 23 (.cons (.var 4) (.nil))) (.cons (.call 11 (.cons (.var 11) (.nil))) (.nil))))) (.cons (.tup (.cons (.var 4) (.cons (.var 11) (.cons (.bc .len (.cons (.var 3) (.nil))) (.nil))))) (.nil))))) (.cons (.ret (.bl false)) (.nil)) (.nil)) (.cons (.ite (.not (.call 20 (.cons (.tup (.cons (.call 16 (.cons (.var 11) (.nil))) (.cons (.call 23 (.cons (.sls (.var 4) .no .no (-1)) (.nil))) (.nil)))) (.cons (.tup (.cons (.sls (.var 11) .no .no (-1)) (.cons (.sls (.var 11) .no .no (-1)) (.nil)))) (.nil))))) (.cons (.ret (.bl false)) (.nil)) (.nil)) (.cons (.ite (.cmp .ne (.call 16 (.cons (.call 16 (.cons (.var 11) (.nil))) (.nil))) (.var 11)) (.cons (.ret (.bl false)) (.nil)) (.nil)) (.cons (.set 5 (.bin .add (.int 1) (.call 4 (.cons (.var 2) (.cons (.int 9883) (.cons (.int 9) (.nil))))))) (.cons (.set 6 (.mt .join (.str ⟨#[]⟩) (.cons (.lc (.one 13) (.it (.var 3)) .no (.bin .mul (.var 13) (.var 5))) (.nil)))) (.cons (.ite (.not (.call 20 (.cons (.tup (.cons (.call 17 (.cons (.var 11) (.cons (.var 5) (.nil)))) (.cons (.call 23 (.cons (.bin .add (.var 6) (.str ⟨#[46, 46]⟩)) (.nil))) (.nil)))) (.cons (.tup (.cons (.call 21 (.cons (.var 6) (.nil))) (.cons (.call 21 (.cons (.var 6) (.nil))) (.nil)))) (.nil))))) (.cons (.ret (.bl false)) (.nil)) (.nil)) (.cons (.set 7 (.bc .tuple (.cons (.lc (.tup [14, 15]) (.enum (.var 11)) (.some (.cmp .eq (.bin .mod (.var 14) (.int 2)) (.int 0))) (.var 15)) (.nil)))) (.cons (.set 8 (.bc .tuple (.cons (.lc (.tup [14, 15]) (.enum (.var 11)) (.some (.cmp .eq (.bin .mod (.var 14) (.int 2)) (.int 1))) (.var 15)) (.nil)))) (.cons (.ite (.not (.call 20 (.cons (.tup (.cons (.call 18 (.cons (.var 11) (.nil))) (.cons (.call 19 (.cons (.var 11) (.nil))) (.nil)))) (.cons (.tup (.cons (.var 7) (.cons (.var 8) (.nil)))) (.nil))))) (.cons (.ret (.bl false)) (.nil)) (.nil)) (.cons (.set 9 (.mt .join (.str ⟨#[]⟩) (.cons (.lc (.one 14) (.rng (.cons (.call 4 (.cons (.var 2) (.cons (.int 9859) (.cons (.int 20) (.nil))))) (.nil))) .no (.sub (.str ⟨#[35, 46]⟩) (.call 4 (.cons (.bin .add (.var 2) (.bin .mul (.int 3) (.var 14))) (.cons (.int 9871) (.cons (.int 2) (.nil))))))) (.nil)))) (.cons (.set 10 (.call 21 (.cons (.mt .strip (.var 9) (.cons (.str ⟨#[46]⟩) (.nil))) (.nil)))) (.cons (.ite (.not (.call 20 (.cons (.call 23 (.cons (.var 9) (.nil))) (.cons (.ite (.cmp .ne (.var 10) (.tup (.nil))) (.var 10) (.str ⟨#[110, 111, 32, 114, 111, 119]⟩)) (.nil))))) (.cons (.ret (.bl false)) (.nil)) (.nil)) (.nil))))))))))))))))
def b_law_k02 : Sxs := .cons (.for_ (.one 1) (.rng (.cons (.int 16) (.nil))) B_law_k02_1) (.cons (.ret (.and (.cmp .eq (.call 23 (.cons (.str ⟨#[46, 46, 46]⟩) (.nil))) (.str ⟨#[110, 111, 32, 114, 111, 119]⟩)) (.and (.cmp .eq (.call 23 (.cons (.str ⟨#[]⟩) (.nil))) (.str ⟨#[110, 111, 32, 114, 111, 119]⟩)) (.one (.cmp .eq (.call 13 (.cons (.tup (.cons (.int 1) (.cons (.int 2) (.cons (.int 1) (.nil))))) (.cons (.int 1) (.nil)))) (.str ⟨#[46, 35, 46, 46, 35, 46]⟩)))))) (.nil))
def F_law_k02 : Fd := ⟨"law", 1, ["script", "k", "cell", "spots", "picture", "times", "wide", "dark", "light", "drawn", "due", "row", "rim", "sign", "j", "width"], b_law_k02⟩
/-! 25: weighed(figures) -/
def b_weighed : Sxs := .cons (.ret (.bc .sum (.cons (.lc (.tup [1, 2]) (.enum (.sls (.var 0) .no .no (-1))) .no (.bin .mul (.bc .int (.cons (.var 2) (.nil))) (.sub (.tup (.cons (.int 1) (.cons (.int 3) (.nil)))) (.bin .mod (.var 1) (.int 2))))) (.nil)))) (.nil)
def F_weighed : Fd := ⟨"weighed", 1, ["figures", "k", "figure"], b_weighed⟩
/-! 26: check_of(figures) -/
def b_check_of : Sxs := .cons (.ret (.sub (.con 3) (.bin .mod (.bin .sub (.int 0) (.call 25 (.cons (.bin .add (.var 0) (.str ⟨#[48]⟩)) (.nil)))) (.int 10)))) (.nil)
def F_check_of : Fd := ⟨"check_of", 1, ["figures"], b_check_of⟩
/-! 27: fits(figures) -/
def b_fits : Sxs := .cons (.ret (.cmp .eq (.bin .mod (.call 25 (.cons (.var 0) (.nil))) (.int 10)) (.int 0))) (.nil)
def F_fits : Fd := ⟨"fits", 1, ["figures"], b_fits⟩
/-! 28: lacking(text) -/
def b_lacking : Sxs := .cons (.ret (.sub (.lc (.one 1) (.it (.con 3)) (.some (.call 27 (.cons (.repl 0 ⟨#[63]⟩ 1) (.nil)))) (.var 1)) (.int 0))) (.nil)
def F_lacking : Fd := ⟨"lacking", 1, ["text", "figure"], b_lacking⟩
/-! 29: exchanged(figures, k) -/
def b_exchanged : Sxs := .cons (.ret (.bin .add (.bin .add (.bin .add (.sl (.var 0) .no (.some (.var 1))) (.sub (.var 0) (.bin .add (.var 1) (.int 1)))) (.sub (.var 0) (.var 1))) (.sl (.var 0) (.some (.bin .add (.var 1) (.int 2))) .no))) (.nil)
def F_exchanged : Fd := ⟨"exchanged", 2, ["figures", "k"], b_exchanged⟩
/-! 30: silent(figures) -/
def B_silent_1 : Sxs := .cons (.ite (.and (.cmp .ne (.sub (.var 0) (.var 2)) (.sub (.var 0) (.bin .add (.var 2) (.int 1)))) (.one (.cmp .eq (.call 27 (.cons (.call 29 (.cons (.var 0) (.cons (.var 2) (.nil)))) (.nil))) (.call 27 (.cons (.var 0) (.nil)))))) (.cons (.app 1 (.var 2)) (.nil)) (.nil)) (.nil)
def b_silent : Sxs := .cons (.own 1 (.lst (.nil))) (.cons (.for_ (.one 2) (.rng (.cons (.bin .sub (.bc .len (.cons (.var 0) (.nil))) (.int 1)) (.nil))) B_silent_1) (.cons (.ret (.bc .tuple (.cons (.pk 1) (.nil)))) (.nil)))
def F_silent : Fd := ⟨"silent", 1, ["figures", "found", "k"], b_silent⟩
/-! 31: mod_check(values, by) -/
def b_mod_check : Sxs := .cons (.ret (.bin .mod (.bin .add (.sub (.var 0) (.int 0)) (.bc .sum (.cons (.lc (.tup [2, 3]) (.enum (.var 0)) .no (.bin .mul (.var 2) (.var 3))) (.nil)))) (.var 1))) (.nil)
def F_mod_check : Fd := ⟨"mod_check", 2, ["values", "by", "k", "value"], b_mod_check⟩
/-! 32: _law_figures(cell, many) -/
def b_law_figures : Sxs := .cons (.ret (.mt .join (.str ⟨#[]⟩) (.cons (.lc (.one 2) (.rng (.cons (.var 1) (.nil))) .no (.sub (.str ⟨#[48, 49, 50, 51, 52, 53, 54, 55, 56, 57]⟩) (.call 4 (.cons (.bin .add (.var 0) (.bin .mul (.int 11) (.var 2))) (.cons (.int 9949) (.cons (.int 10) (.nil))))))) (.nil)))) (.nil)
def F_law_figures : Fd := ⟨"_law_figures", 2, ["cell", "many", "j"], b_law_figures⟩
/-! 33: _law_sum(figures) -/
def B_law_sum_1 : Sxs := .cons (.set 3 (.mt .indexS (.str ⟨#[48, 49, 50, 51, 52, 53, 54, 55, 56, 57]⟩) (.cons (.sub (.var 0) (.bin .sub (.bin .sub (.bc .len (.cons (.var 0) (.nil))) (.int 1)) (.var 2))) (.nil)))) (.cons (.set 1 (.bin .add (.var 1) (.bin .mul (.var 3) (.sub (.tup (.cons (.int 1) (.cons (.int 3) (.nil)))) (.bin .mod (.var 2) (.int 2)))))) (.nil))
def b_law_sum : Sxs := .cons (.set 1 (.int 0)) (.cons (.for_ (.one 2) (.rng (.cons (.bc .len (.cons (.var 0) (.nil))) (.nil))) B_law_sum_1) (.cons (.ret (.var 1)) (.nil)))
def F_law_sum : Fd := ⟨"_law_sum", 1, ["figures", "gathered", "k", "figure"], b_law_sum⟩
/-! 34: _law_check(figures) -/
def b_law_check : Sxs := .cons (.ret (.sub (.lc (.one 1) (.it (.str ⟨#[48, 49, 50, 51, 52, 53, 54, 55, 56, 57]⟩)) (.some (.cmp .eq (.bin .mod (.call 33 (.cons (.bin .add (.var 0) (.var 1)) (.nil))) (.int 10)) (.int 0))) (.var 1)) (.int 0))) (.nil)
def F_law_check : Fd := ⟨"_law_check", 1, ["figures", "one"], b_law_check⟩
/-! 36: law(script) -/
def B_law_k04_1 : Sxs := .cons (.set 11 (.bin .add (.bin .add (.sl (.var 4) .no (.some (.var 5))) (.var 8)) (.sl (.var 4) (.some (.bin .add (.var 5) (.int 1))) .no))) (.cons (.ite (.cmp .ne (.call 27 (.cons (.var 11) (.nil))) (.cmp .eq (.var 8) (.sub (.var 4) (.var 5)))) (.cons (.ret (.bl false)) (.nil)) (.nil)) (.nil))
def B_law_k04_2 : Sxs := .cons (.for_ (.one 8) (.it (.str ⟨#[48, 49, 50, 51, 52, 53, 54, 55, 56, 57]⟩)) B_law_k04_1) (.cons (.ite (.cmp .ne (.lack 28 (.sl (.var 4) .no (.some (.var 5))) ⟨#[63]⟩ (.sl (.var 4) (.some (.bin .add (.var 5) (.int 1))) .no)) (.sub (.var 4) (.var 5))) (.cons (.ret (.bl false)) (.nil)) (.nil)) (.nil))
def B_law_k04_3 : Sxs := .cons (.par [(8, false), (6, false)] (.cons (.sub (.var 4) (.var 5)) (.cons (.sub (.var 4) (.bin .add (.var 5) (.int 1))) (.nil)))) (.cons (.set 9 (.cmp .eq (.bc .abs (.cons (.bin .sub (.mt .indexS (.str ⟨#[48, 49, 50, 51, 52, 53, 54, 55, 56, 57]⟩) (.cons (.var 8) (.nil))) (.mt .indexS (.str ⟨#[48, 49, 50, 51, 52, 53, 54, 55, 56, 57]⟩) (.cons (.var 6) (.nil)))) (.nil))) (.int 5))) (.cons (.set 10 (.bin .add (.bin .add (.bin .add (.sl (.var 4) .no (.some (.var 5))) (.var 6)) (.var 8)) (.sl (.var 4) (.some (.bin .add (.var 5) (.int 2))) .no))) (.cons (.ite (.or (.cmp .ne (.call 27 (.cons (.var 10) (.nil))) (.or (.var 9) (.one (.cmp .eq (.var 8) (.var 6))))) (.one (.cmp .ne (.cmp .isin (.var 5) (.call 30 (.cons (.var 4) (.nil)))) (.var 9)))) (.cons (.ret (.bl false)) (.nil)) (.nil)) (.nil))))
def B_law_k04_4 : Sxs := .cons (.set 2 (.bin .add (.call 3 (.cons (.var 0) (.cons (.bin .mod (.var 1) (.int 9)) (.nil)))) (.bin .mul (.int 31) (.var 1)))) (.cons (.set 3 (.call 32 (.cons (.var 2) (.cons (.bin .add (.int 1) (.call 4 (.cons (.var 2) (.cons (.int 9829) (.cons (.int 16) (.nil)))))) (.nil))))) (.cons (.set 4 (.bin .add (.var 3) (.call 26 (.cons (.var 3) (.nil))))) (.cons (.ite (.or (.cmp .isnot (.call 27 (.cons (.var 4) (.nil))) (.bl true)) (.one (.cmp .ne (.bc .len (.cons (.var 4) (.nil))) (.bin .add (.bc .len (.cons (.var 3) (.nil))) (.int 1))))) (.cons (.ret (.bl false)) (.nil)) (.nil)) (.cons (.for_ (.one 5) (.rng (.cons (.bc .len (.cons (.var 4) (.nil))) (.nil))) B_law_k04_2) (.cons (.for_ (.one 5) (.rng (.cons (.bin .sub (.bc .len (.cons (.var 4) (.nil))) (.int 1)) (.nil))) B_law_k04_3) (.cons (.set 6 (.call 32 (.cons (.bin .add (.call 3 (.cons (.var 0) (.cons (.int 9) (.nil)))) (.bin .mul (.int 7) (.var 1))) (.cons (.bin .add (.int 1) (.bin .mul (.int 2) (.bin .mod (.var 1) (.int 4)))) (.nil))))) (.cons (.set 7 (.bin .add (.var 6) (.call 26 (.cons (.var 6) (.nil))))) (.cons (.ite (.or (.and (.cmp .eq (.bin .mod (.bc .len (.cons (.var 4) (.nil))) (.int 2)) (.int 0)) (.one (.cmp .isnot (.call 27 (.cons (.bin .add (.var 7) (.var 4)) (.nil))) (.bl true)))) (.one (.cmp .isnot (.call 27 (.cons (.bin .add (.str ⟨#[48]⟩) (.var 4)) (.nil))) (.bl true)))) (.cons (.ret (.bl false)) (.nil)) (.nil)) (.cons (.ite (.or (.cmp .isnot (.call 27 (.cons (.bin .add (.bin .add (.str ⟨#[48, 48]⟩) (.var 3)) (.call 26 (.cons (.bin .add (.str ⟨#[48, 48]⟩) (.var 3)) (.nil)))) (.nil))) (.bl true)) (.one (.cmp .ne (.call 26 (.cons (.bin .add (.str ⟨#[48, 48]⟩) (.var 3)) (.nil))) (.call 26 (.cons (.var 3) (.nil)))))) (.cons (.ret (.bl false)) (.nil)) (.nil)) (.nil))))))))))
def b_law_k04 : Sxs := .cons (.for_ (.one 1) (.rng (.cons (.int 16) (.nil))) B_law_k04_4) (.cons (.ret (.bl true)) (.nil))
def F_law_k04 : Fd := ⟨"law", 1, ["script", "k", "cell", "figures", "full", "place", "other", "ahead", "one", "five", "swapped", "near"], b_law_k04⟩
/-! 37: are_figures(text) -/
def b_are_figures : Sxs := .cons (.ret (.bc .all (.cons (.lc (.one 1) (.it (.var 0)) .no (.cmp .isin (.var 1) (.con 3))) (.nil)))) (.nil)
def F_are_figures : Fd := ⟨"are_figures", 1, ["text", "sign"], b_are_figures⟩
/-! 38: thirteen_row(figures) -/
def B_thirteen_row_1 : Sxs := .cons (.set 4 (.sub (.con 4) (.bc .int (.cons (.var 2) (.nil))))) (.cons (.set 1 (.bin .add (.var 1) (.ite (.cmp .eq (.var 3) (.str ⟨#[111]⟩)) (.var 4) (.sls (.var 4) .no .no (-1))))) (.nil))
def B_thirteen_row_2 : Sxs := .cons (.set 1 (.bin .add (.var 1) (.sub (.con 4) (.bc .int (.cons (.var 2) (.nil)))))) (.nil)
def b_thirteen_row : Sxs := .cons (.ite (.and (.cmp .eq (.bc .len (.cons (.var 0) (.nil))) (.int 12)) (.one (.call 37 (.cons (.var 0) (.nil))))) (.cons (.set 0 (.bin .add (.var 0) (.call 26 (.cons (.var 0) (.nil))))) (.nil)) (.nil)) (.cons (.ite (.or (.cmp .ne (.bc .len (.cons (.var 0) (.nil))) (.int 13)) (.or (.not (.call 37 (.cons (.var 0) (.nil)))) (.one (.not (.call 27 (.cons (.var 0) (.nil))))))) (.cons (.raise 2) (.nil)) (.nil)) (.cons (.set 1 (.con 6)) (.cons (.for_ (.tup [2, 3]) (.zip (.sl (.var 0) (.some (.int 1)) (.some (.int 7))) (.sub (.con 5) (.bc .int (.cons (.sub (.var 0) (.int 0)) (.nil))))) B_thirteen_row_1) (.cons (.set 1 (.bin .add (.var 1) (.con 7))) (.cons (.for_ (.one 2) (.it (.sl (.var 0) (.some (.int 7)) .no)) B_thirteen_row_2) (.cons (.ret (.bin .add (.var 1) (.con 6))) (.nil)))))))
def F_thirteen_row : Fd := ⟨"thirteen_row", 1, ["figures", "found", "figure", "manner", "widths"], b_thirteen_row⟩
/-! 39: fours(row, begin) -/
def b_fours : Sxs := .cons (.ret (.lc (.one 2) (.rng (.cons (.var 1) (.cons (.bin .add (.var 1) (.int 24)) (.cons (.int 4) (.nil))))) .no (.sl (.var 0) (.some (.var 2)) (.some (.bin .add (.var 2) (.int 4)))))) (.nil)
def F_fours : Fd := ⟨"fours", 2, ["row", "begin", "k"], b_fours⟩
/-! 40: left_figures(some) -/
def B_left_figures_1 : Sxs := .cons (.ite (.cmp .isin (.var 1) (.con 4)) (.cons (.par [(2, false), (3, false)] (.cons (.bin .add (.var 2) (.sub (.con 3) (.mt .indexT (.con 4) (.cons (.var 1) (.nil))))) (.cons (.bin .add (.var 3) (.str ⟨#[111]⟩)) (.nil)))) (.nil)) (.cons (.ite (.cmp .isin (.sls (.var 1) .no .no (-1)) (.con 4)) (.cons (.par [(2, false), (3, false)] (.cons (.bin .add (.var 2) (.sub (.con 3) (.mt .indexT (.con 4) (.cons (.sls (.var 1) .no .no (-1)) (.nil))))) (.cons (.bin .add (.var 3) (.str ⟨#[101]⟩)) (.nil)))) (.nil)) (.cons (.ret (.non)) (.nil))) (.nil))) (.nil)
def b_left_figures : Sxs := .cons (.unp [2, 3] (.tup (.cons (.str ⟨#[]⟩) (.cons (.str ⟨#[]⟩) (.nil))))) (.cons (.for_ (.one 1) (.it (.var 0)) B_left_figures_1) (.cons (.ite (.cmp .notin (.var 3) (.con 5)) (.cons (.ret (.non)) (.nil)) (.nil)) (.cons (.ret (.bin .add (.sub (.con 3) (.mt .indexT (.con 5) (.cons (.var 3) (.nil)))) (.var 2))) (.nil))))
def F_left_figures : Fd := ⟨"left_figures", 1, ["some", "widths", "found", "manners"], b_left_figures⟩
/-! 41: straight_thirteen(row) -/
def b_straight_thirteen : Sxs := .cons (.ite (.or (.cmp .ne (.bc .len (.cons (.var 0) (.nil))) (.con 8)) (.or (.cmp .ne (.sl (.var 0) .no (.some (.int 3))) (.con 6)) (.or (.cmp .ne (.sl (.var 0) (.some (.int 27)) (.some (.int 32))) (.con 7)) (.one (.cmp .ne (.sl (.var 0) (.some (.int 56)) .no) (.con 6)))))) (.cons (.ret (.non)) (.nil)) (.nil)) (.cons (.set 1 (.call 40 (.cons (.call 39 (.cons (.var 0) (.cons (.int 3) (.nil)))) (.nil)))) (.cons (.set 2 (.call 39 (.cons (.var 0) (.cons (.int 32) (.nil))))) (.cons (.ite (.or (.cmp .is (.var 1) (.non)) (.one (.not (.bc .all (.cons (.lc (.one 4) (.it (.var 2)) .no (.cmp .isin (.var 4) (.con 4))) (.nil)))))) (.cons (.ret (.non)) (.nil)) (.nil)) (.cons (.set 3 (.bin .add (.var 1) (.mt .join (.str ⟨#[]⟩) (.cons (.lc (.one 4) (.it (.var 2)) .no (.sub (.con 3) (.mt .indexT (.con 4) (.cons (.var 4) (.nil))))) (.nil))))) (.cons (.ite (.not (.call 27 (.cons (.var 3) (.nil)))) (.cons (.ret (.non)) (.nil)) (.nil)) (.cons (.ret (.var 3)) (.nil)))))))
def F_straight_thirteen : Fd := ⟨"straight_thirteen", 1, ["row", "left", "right", "found", "widths"], b_straight_thirteen⟩
/-! 42: thirteen_of(row) -/
def b_thirteen_of : Sxs := .cons (.set 1 (.call 41 (.cons (.var 0) (.nil)))) (.cons (.ite (.cmp .is (.var 1) (.non)) (.cons (.set 1 (.call 41 (.cons (.call 16 (.cons (.var 0) (.nil))) (.nil)))) (.nil)) (.nil)) (.cons (.ite (.cmp .is (.var 1) (.non)) (.cons (.raise 2) (.nil)) (.nil)) (.cons (.ret (.var 1)) (.nil))))
def F_thirteen_of : Fd := ⟨"thirteen_of", 1, ["row", "found"], b_thirteen_of⟩
/-! 43: _law_thirteen(cell) -/
def b_law_thirteen : Sxs := .cons (.set 1 (.call 32 (.cons (.var 0) (.cons (.int 12) (.nil))))) (.cons (.ret (.bin .add (.var 1) (.call 34 (.cons (.var 1) (.nil))))) (.nil))
def F_law_thirteen : Fd := ⟨"_law_thirteen", 1, ["cell", "first"], b_law_thirteen⟩
/-! 44: _law_thirteen_row(figures) -/
def B_law_thirteen_row_1 : Sxs := .cons (.set 6 (.sub (.var 1) (.mt .indexS (.str ⟨#[48, 49, 50, 51, 52, 53, 54, 55, 56, 57]⟩) (.cons (.sub (.var 0) (.bin .add (.var 4) (.int 1))) (.nil))))) (.cons (.ite (.cmp .eq (.sub (.sub (.var 2) (.mt .indexS (.str ⟨#[48, 49, 50, 51, 52, 53, 54, 55, 56, 57]⟩) (.cons (.sub (.var 0) (.int 0)) (.nil)))) (.var 4)) (.str ⟨#[101]⟩)) (.cons (.set 6 (.sls (.var 6) .no .no (-1))) (.nil)) (.nil)) (.cons (.set 3 (.bin .add (.var 3) (.var 6))) (.nil)))
def B_law_thirteen_row_2 : Sxs := .cons (.set 3 (.bin .add (.var 3) (.sub (.var 1) (.mt .indexS (.str ⟨#[48, 49, 50, 51, 52, 53, 54, 55, 56, 57]⟩) (.cons (.var 5) (.nil)))))) (.nil)
def b_law_thirteen_row : Sxs := .cons (.set 1 (.tup (.cons (.str ⟨#[51, 50, 49, 49]⟩) (.cons (.str ⟨#[50, 50, 50, 49]⟩) (.cons (.str ⟨#[50, 49, 50, 50]⟩) (.cons (.str ⟨#[49, 52, 49, 49]⟩) (.cons (.str ⟨#[49, 49, 51, 50]⟩) (.cons (.str ⟨#[49, 50, 51, 49]⟩) (.cons (.str ⟨#[49, 49, 49, 52]⟩) (.cons (.str ⟨#[49, 51, 49, 50]⟩) (.cons (.str ⟨#[49, 50, 49, 51]⟩) (.cons (.str ⟨#[51, 49, 49, 50]⟩) (.nil))))))))))))) (.cons (.set 2 (.tup (.cons (.str ⟨#[111, 111, 111, 111, 111, 111]⟩) (.cons (.str ⟨#[111, 111, 101, 111, 101, 101]⟩) (.cons (.str ⟨#[111, 111, 101, 101, 111, 101]⟩) (.cons (.str ⟨#[111, 111, 101, 101, 101, 111]⟩) (.cons (.str ⟨#[111, 101, 111, 111, 101, 101]⟩) (.cons (.str ⟨#[111, 101, 101, 111, 111, 101]⟩) (.cons (.str ⟨#[111, 101, 101, 101, 111, 111]⟩) (.cons (.str ⟨#[111, 101, 111, 101, 111, 101]⟩) (.cons (.str ⟨#[111, 101, 111, 101, 101, 111]⟩) (.cons (.str ⟨#[111, 101, 101, 111, 101, 111]⟩) (.nil))))))))))))) (.cons (.set 3 (.str ⟨#[49, 49, 49]⟩)) (.cons (.for_ (.one 4) (.rng (.cons (.int 6) (.nil))) B_law_thirteen_row_1) (.cons (.set 3 (.bin .add (.var 3) (.str ⟨#[49, 49, 49, 49, 49]⟩))) (.cons (.for_ (.one 5) (.it (.sl (.var 0) (.some (.int 7)) .no)) B_law_thirteen_row_2) (.cons (.ret (.bc .tuple (.cons (.lc (.one 7) (.it (.bin .add (.var 3) (.str ⟨#[49, 49, 49]⟩))) .no (.mt .indexS (.str ⟨#[48, 49, 50, 51, 52]⟩) (.cons (.var 7) (.nil)))) (.nil)))) (.nil)))))))
def F_law_thirteen_row : Fd := ⟨"_law_thirteen_row", 1, ["figures", "odd", "manners", "gathered", "k", "figure", "widths", "width"], b_law_thirteen_row⟩
/-! 45: _law_said(way, thing) -/
def b_law_said_k05 : Sxs := .cons (.tryw (.cons (.ret (.ite (.cmp .eq (.var 0) (.int 0)) (.call 38 (.cons (.var 1) (.nil))) (.call 42 (.cons (.var 1) (.nil))))) (.nil)) 0 2) (.nil)
def F_law_said_k05 : Fd := ⟨"_law_said", 2, ["way", "thing", "e"], b_law_said_k05⟩
/-! 46: _law_read(row) -/
def B_law_read_1 : Sxs := .cons (.set 8 (.sl (.call 44 (.cons (.bin .add (.bin .mul (.str ⟨#[48]⟩) (.int 7)) (.bin .mul (.var 6) (.int 6))) (.nil))) (.some (.int 32)) (.some (.int 36)))) (.cons (.ite (.or (.cmp .eq (.sl (.var 1) (.some (.var 5)) (.some (.bin .add (.var 5) (.int 4)))) (.var 8)) (.one (.and (.cmp .lt (.var 3) (.int 6)) (.one (.cmp .eq (.sl (.var 1) (.some (.var 5)) (.some (.bin .add (.var 5) (.int 4)))) (.sls (.var 8) .no .no (-1))))))) (.cons (.set 2 (.bin .add (.var 2) (.var 6))) (.nil)) (.nil)) (.nil))
def B_law_read_2 : Sxs := .cons (.set 5 (.bin .add (.bin .add (.int 3) (.bin .mul (.int 4) (.var 3))) (.bin .mul (.int 5) (.bc .int (.cons (.cmp .gt (.var 3) (.int 5)) (.nil)))))) (.cons (.for_ (.one 6) (.it (.str ⟨#[48, 49, 50, 51, 52, 53, 54, 55, 56, 57]⟩)) B_law_read_1) (.nil))
def B_law_read_3 : Sxs := .cons (.set 7 (.bin .add (.var 4) (.var 2))) (.cons (.ite (.and (.cmp .eq (.bc .len (.cons (.var 2) (.nil))) (.int 12)) (.and (.cmp .eq (.call 44 (.cons (.var 7) (.nil))) (.var 1)) (.one (.cmp .eq (.bin .mod (.call 33 (.cons (.var 7) (.nil))) (.int 10)) (.int 0))))) (.cons (.ret (.var 7)) (.nil)) (.nil)) (.nil))
def B_law_read_4 : Sxs := .cons (.set 2 (.str ⟨#[]⟩)) (.cons (.for_ (.one 3) (.rng (.cons (.int 12) (.nil))) B_law_read_2) (.cons (.for_ (.one 4) (.it (.str ⟨#[48, 49, 50, 51, 52, 53, 54, 55, 56, 57]⟩)) B_law_read_3) (.nil)))
def b_law_read : Sxs := .cons (.ite (.cmp .ne (.bc .len (.cons (.var 0) (.nil))) (.int 59)) (.cons (.ret (.str ⟨#[110, 111, 32, 99, 111, 100, 101]⟩)) (.nil)) (.nil)) (.cons (.for_ (.one 1) (.it (.tup (.cons (.var 0) (.cons (.sls (.var 0) .no .no (-1)) (.nil))))) B_law_read_4) (.cons (.ret (.str ⟨#[110, 111, 32, 99, 111, 100, 101]⟩)) (.nil)))
def F_law_read : Fd := ⟨"_law_read", 1, ["row", "some", "figures", "k", "first", "begin", "figure", "full", "widths"], b_law_read⟩
/-! 47: law(script) -/
def B_law_k05_1 : Sxs := .cons (.ite (.not (.call 20 (.cons (.call 45 (.cons (.int 1) (.cons (.var 8) (.nil)))) (.cons (.call 46 (.cons (.var 8) (.nil))) (.nil))))) (.cons (.ret (.bl false)) (.nil)) (.nil)) (.nil)
def B_law_k05_2 : Sxs := .cons (.set 2 (.bin .add (.call 3 (.cons (.var 0) (.cons (.bin .mod (.var 1) (.int 9)) (.nil)))) (.bin .mul (.int 31) (.var 1)))) (.cons (.set 3 (.call 43 (.cons (.var 2) (.nil)))) (.cons (.ite (.cmp .lt (.var 1) (.int 10)) (.cons (.set 3 (.bin .add (.sub (.str ⟨#[48, 49, 50, 51, 52, 53, 54, 55, 56, 57]⟩) (.var 1)) (.sl (.var 3) (.some (.int 1)) (.some (.int 12))))) (.cons (.set 3 (.bin .add (.var 3) (.call 34 (.cons (.var 3) (.nil))))) (.nil))) (.nil)) (.cons (.set 4 (.call 44 (.cons (.var 3) (.nil)))) (.cons (.ite (.not (.call 20 (.cons (.tup (.cons (.call 45 (.cons (.int 0) (.cons (.var 3) (.nil)))) (.cons (.call 45 (.cons (.int 0) (.cons (.sl (.var 3) .no (.some (.int 12))) (.nil)))) (.nil)))) (.cons (.tup (.cons (.var 4) (.cons (.var 4) (.nil)))) (.nil))))) (.cons (.ret (.bl false)) (.nil)) (.nil)) (.cons (.ite (.not (.call 20 (.cons (.tup (.cons (.call 45 (.cons (.int 1) (.cons (.var 4) (.nil)))) (.cons (.call 45 (.cons (.int 1) (.cons (.sls (.var 4) .no .no (-1)) (.nil)))) (.nil)))) (.cons (.tup (.cons (.var 3) (.cons (.var 3) (.nil)))) (.nil))))) (.cons (.ret (.bl false)) (.nil)) (.nil)) (.cons (.set 5 (.call 4 (.cons (.bin .add (.call 3 (.cons (.var 0) (.cons (.int 9) (.nil)))) (.var 1)) (.cons (.int 9817) (.cons (.int 58) (.nil)))))) (.cons (.set 6 (.bin .add (.bin .add (.sl (.var 4) .no (.some (.var 5))) (.tup (.cons (.bin .add (.int 1) (.call 4 (.cons (.var 2) (.cons (.int 9811) (.cons (.int 4) (.nil)))))) (.nil)))) (.sl (.var 4) (.some (.bin .add (.var 5) (.int 1))) .no))) (.cons (.set 7 (.bin .add (.bin .add (.sl (.var 4) .no (.some (.var 5))) (.tup (.cons (.sub (.var 4) (.bin .add (.var 5) (.int 1))) (.cons (.sub (.var 4) (.var 5)) (.nil))))) (.sl (.var 4) (.some (.bin .add (.var 5) (.int 2))) .no))) (.cons (.for_ (.one 8) (.it (.tup (.cons (.var 6) (.cons (.var 7) (.cons (.sl (.var 4) .no (.some (.int 57))) (.cons (.bin .add (.var 4) (.tup (.cons (.int 1) (.cons (.int 1) (.nil))))) (.nil))))))) B_law_k05_1) (.cons (.set 9 (.lst (.cons (.sl (.var 3) .no (.some (.int 11))) (.cons (.bin .add (.var 3) (.str ⟨#[48]⟩)) (.cons (.str ⟨#[]⟩) (.cons (.bin .add (.sl (.var 3) .no (.some (.int 12))) (.str ⟨#[63]⟩)) (.cons (.bin .add (.sl (.var 3) .no (.some (.int 11))) (.str ⟨#[120]⟩)) (.nil)))))))) (.cons (.ite (.cmp .ne (.lc (.one 12) (.it (.var 9)) (.some (.cmp .ne (.call 45 (.cons (.int 0) (.cons (.var 12) (.nil)))) (.str ⟨#[110, 111, 32, 99, 111, 100, 101]⟩))) (.var 12)) (.lst (.nil))) (.cons (.ret (.bl false)) (.nil)) (.nil)) (.cons (.set 10 (.bin .mod (.bin .add (.bin .add (.mt .indexS (.str ⟨#[48, 49, 50, 51, 52, 53, 54, 55, 56, 57]⟩) (.cons (.sub (.var 3) (.int 12)) (.nil))) (.int 1)) (.bin .mod (.var 1) (.int 9))) (.int 10))) (.cons (.set 11 (.bin .add (.sl (.var 3) .no (.some (.int 12))) (.sub (.str ⟨#[48, 49, 50, 51, 52, 53, 54, 55, 56, 57]⟩) (.var 10)))) (.cons (.ite (.cmp .ne (.call 45 (.cons (.int 0) (.cons (.var 11) (.nil)))) (.str ⟨#[110, 111, 32, 99, 111, 100, 101]⟩)) (.cons (.ret (.bl false)) (.nil)) (.nil)) (.nil)))))))))))))))
def b_law_k05 : Sxs := .cons (.for_ (.one 1) (.rng (.cons (.int 16) (.nil))) B_law_k05_2) (.cons (.ret (.and (.cmp .eq (.bc .sum (.cons (.call 38 (.cons (.str ⟨#[52, 48, 48, 54, 51, 56, 49, 51, 51, 51, 57, 51, 49]⟩) (.nil))) (.nil))) (.int 95)) (.one (.cmp .eq (.call 45 (.cons (.int 1) (.cons (.tup (.cons (.int 1) (.nil))) (.nil)))) (.str ⟨#[110, 111, 32, 99, 111, 100, 101]⟩))))) (.nil))
def F_law_k05 : Fd := ⟨"law", 1, ["script", "k", "cell", "figures", "row", "place", "near", "moved", "some", "bad", "last", "wrong", "one"], b_law_k05⟩
/-! 48: width_of(sign, wide) -/
def b_width_of : Sxs := .cons (.ite (.cmp .eq (.var 0) (.str ⟨#[119]⟩)) (.cons (.ret (.var 1)) (.nil)) (.nil)) (.cons (.ret (.int 1)) (.nil))
def F_width_of : Fd := ⟨"width_of", 2, ["sign", "wide"], b_width_of⟩
/-! 49: pair_row(figures, wide) -/
def B_pair_row_1 : Sxs := .cons (.set 2 (.bin .add (.var 2) (.tup (.cons (.call 48 (.cons (.var 4) (.cons (.var 1) (.nil)))) (.cons (.call 48 (.cons (.var 5) (.cons (.var 1) (.nil)))) (.nil)))))) (.nil)
def B_pair_row_2 : Sxs := .cons (.for_ (.tup [4, 5]) (.zip (.sub (.con 9) (.bc .int (.cons (.sub (.var 0) (.var 3)) (.nil)))) (.sub (.con 9) (.bc .int (.cons (.sub (.var 0) (.bin .add (.var 3) (.int 1))) (.nil))))) B_pair_row_1) (.nil)
def b_pair_row : Sxs := .cons (.ite (.or (.cmp .eq (.bin .mod (.bc .len (.cons (.var 0) (.nil))) (.int 2)) (.int 1)) (.or (.not (.chn .le .le (.int 2) (.bc .len (.cons (.var 0) (.nil))) (.con 11))) (.one (.not (.call 37 (.cons (.var 0) (.nil))))))) (.cons (.raise 2) (.nil)) (.nil)) (.cons (.set 2 (.con 10)) (.cons (.for_ (.one 3) (.rng (.cons (.int 0) (.cons (.bc .len (.cons (.var 0) (.nil))) (.cons (.int 2) (.nil))))) B_pair_row_2) (.cons (.ret (.bin .add (.var 2) (.tup (.cons (.var 1) (.cons (.int 1) (.cons (.int 1) (.nil))))))) (.nil))))
def F_pair_row : Fd := ⟨"pair_row", 2, ["figures", "wide", "found", "k", "bar", "gap"], b_pair_row⟩
/-! 50: figure_in(widths, wide) -/
def b_figure_in : Sxs := .cons (.set 2 (.mt .join (.str ⟨#[]⟩) (.cons (.lc (.one 3) (.it (.var 0)) .no (.ite (.cmp .eq (.var 3) (.var 1)) (.str ⟨#[119]⟩) (.ite (.cmp .eq (.var 3) (.int 1)) (.str ⟨#[110]⟩) (.str ⟨#[63]⟩)))) (.nil)))) (.cons (.ite (.cmp .notin (.var 2) (.con 9)) (.cons (.ret (.non)) (.nil)) (.nil)) (.cons (.ret (.sub (.con 3) (.mt .indexT (.con 9) (.cons (.var 2) (.nil))))) (.nil)))
def F_figure_in : Fd := ⟨"figure_in", 2, ["widths", "wide", "signs", "width"], b_figure_in⟩
/-! 51: straight_pair(row, wide) -/
def B_straight_pair_1 : Sxs := .cons (.set 4 (.lc (.one 5) (.it (.tup (.cons (.int 0) (.cons (.int 1) (.nil))))) .no (.call 50 (.cons (.sls (.var 0) (.some (.bin .add (.var 3) (.var 5))) (.some (.bin .add (.var 3) (.int 10))) (2)) (.cons (.var 1) (.nil)))))) (.cons (.ite (.cmp .isin (.non) (.var 4)) (.cons (.ret (.non)) (.nil)) (.nil)) (.cons (.set 2 (.bin .add (.bin .add (.var 2) (.sub (.var 4) (.int 0))) (.sub (.var 4) (.int 1)))) (.nil)))
def b_straight_pair : Sxs := .cons (.ite (.or (.cmp .ne (.sl (.var 0) .no (.some (.int 4))) (.con 10)) (.or (.cmp .ne (.sl (.var 0) (.some (.neg (.int 3))) .no) (.tup (.cons (.var 1) (.cons (.int 1) (.cons (.int 1) (.nil)))))) (.or (.cmp .ne (.bin .mod (.bc .len (.cons (.var 0) (.nil))) (.int 10)) (.int 7)) (.one (.cmp .lt (.bc .len (.cons (.var 0) (.nil))) (.int 17)))))) (.cons (.ret (.non)) (.nil)) (.nil)) (.cons (.set 2 (.str ⟨#[]⟩)) (.cons (.for_ (.one 3) (.rng (.cons (.int 4) (.cons (.bin .sub (.bc .len (.cons (.var 0) (.nil))) (.int 3)) (.cons (.int 10) (.nil))))) B_straight_pair_1) (.cons (.ite (.cmp .gt (.bc .len (.cons (.var 2) (.nil))) (.con 11)) (.cons (.ret (.non)) (.nil)) (.nil)) (.cons (.ret (.var 2)) (.nil)))))
def F_straight_pair : Fd := ⟨"straight_pair", 2, ["row", "wide", "found", "k", "some", "side"], b_straight_pair⟩
/-! 52: pair_of(row) -/
def B_pair_of_1 : Sxs := .cons (.set 3 (.call 51 (.cons (.var 1) (.cons (.var 2) (.nil))))) (.cons (.ite (.cmp .isnot (.var 3) (.non)) (.cons (.ret (.var 3)) (.nil)) (.nil)) (.nil))
def B_pair_of_2 : Sxs := .cons (.for_ (.one 2) (.it (.con 12)) B_pair_of_1) (.nil)
def b_pair_of : Sxs := .cons (.for_ (.one 1) (.it (.tup (.cons (.var 0) (.cons (.call 16 (.cons (.var 0) (.nil))) (.nil))))) B_pair_of_2) (.cons (.raise 2) (.nil))
def F_pair_of : Fd := ⟨"pair_of", 1, ["row", "some", "wide", "found"], b_pair_of⟩
/-! 53: _law_pair_row(figures, wide) -/
def B_law_pair_row_1 : Sxs := .cons (.app 3 (.ite (.cmp .eq (.sub (.var 5) (.var 7)) (.str ⟨#[119]⟩)) (.var 1) (.int 1))) (.cons (.app 3 (.ite (.cmp .eq (.sub (.var 6) (.var 7)) (.str ⟨#[119]⟩)) (.var 1) (.int 1))) (.nil))
def B_law_pair_row_2 : Sxs := .cons (.set 5 (.sub (.var 2) (.mt .indexS (.str ⟨#[48, 49, 50, 51, 52, 53, 54, 55, 56, 57]⟩) (.cons (.sub (.var 0) (.var 4)) (.nil))))) (.cons (.set 6 (.sub (.var 2) (.mt .indexS (.str ⟨#[48, 49, 50, 51, 52, 53, 54, 55, 56, 57]⟩) (.cons (.sub (.var 0) (.bin .add (.var 4) (.int 1))) (.nil))))) (.cons (.for_ (.one 7) (.rng (.cons (.int 5) (.nil))) B_law_pair_row_1) (.nil)))
def b_law_pair_row : Sxs := .cons (.set 2 (.tup (.cons (.str ⟨#[110, 110, 119, 119, 110]⟩) (.cons (.str ⟨#[119, 110, 110, 110, 119]⟩) (.cons (.str ⟨#[110, 119, 110, 110, 119]⟩) (.cons (.str ⟨#[119, 119, 110, 110, 110]⟩) (.cons (.str ⟨#[110, 110, 119, 110, 119]⟩) (.cons (.str ⟨#[119, 110, 119, 110, 110]⟩) (.cons (.str ⟨#[110, 119, 119, 110, 110]⟩) (.cons (.str ⟨#[110, 110, 110, 119, 119]⟩) (.cons (.str ⟨#[119, 110, 110, 119, 110]⟩) (.cons (.str ⟨#[110, 119, 110, 119, 110]⟩) (.nil))))))))))))) (.cons (.own 3 (.lst (.cons (.int 1) (.cons (.int 1) (.cons (.int 1) (.cons (.int 1) (.nil))))))) (.cons (.for_ (.one 4) (.rng (.cons (.int 0) (.cons (.bc .len (.cons (.var 0) (.nil))) (.cons (.int 2) (.nil))))) B_law_pair_row_2) (.cons (.ret (.bc .tuple (.cons (.bin .add (.pk 3) (.lst (.cons (.var 1) (.cons (.int 1) (.cons (.int 1) (.nil)))))) (.nil)))) (.nil))))
def F_law_pair_row : Fd := ⟨"_law_pair_row", 2, ["figures", "wide", "fives", "gathered", "k", "one", "other", "j"], b_law_pair_row⟩
/-! 54: _law_said(way, thing, wide) -/
def b_law_said_k06 : Sxs := .cons (.tryw (.cons (.ret (.ite (.cmp .eq (.var 0) (.int 0)) (.call 49 (.cons (.var 1) (.cons (.var 2) (.nil)))) (.call 52 (.cons (.var 1) (.nil))))) (.nil)) 0 3) (.nil)
def F_law_said_k06 : Fd := ⟨"_law_said", 3, ["way", "thing", "wide", "e"], b_law_said_k06⟩
/-! 55: _law_read(row) -/
def B_law_read_k06_1 : Sxs := .cons (.set 8 (.ite (.cmp .eq (.var 6) (.int 0)) (.bin .add (.var 7) (.str ⟨#[48]⟩)) (.bin .add (.str ⟨#[48]⟩) (.var 7)))) (.cons (.ite (.cmp .eq (.sls (.var 1) (.some (.bin .add (.var 4) (.var 6))) (.some (.bin .add (.var 4) (.int 10))) (2)) (.sls (.call 53 (.cons (.var 8) (.cons (.var 2) (.nil)))) (.some (.bin .add (.int 4) (.var 6))) (.some (.int 14)) (2))) (.cons (.set 3 (.bin .add (.var 3) (.var 7))) (.nil)) (.nil)) (.nil))
def B_law_read_k06_2 : Sxs := .cons (.for_ (.one 7) (.it (.str ⟨#[48, 49, 50, 51, 52, 53, 54, 55, 56, 57]⟩)) B_law_read_k06_1) (.nil)
def B_law_read_k06_3 : Sxs := .cons (.for_ (.one 6) (.it (.tup (.cons (.int 0) (.cons (.int 1) (.nil))))) B_law_read_k06_2) (.nil)
def B_law_read_k06_4 : Sxs := .cons (.set 3 (.str ⟨#[]⟩)) (.cons (.for_ (.one 4) (.rng (.cons (.int 4) (.cons (.bin .sub (.bc .len (.cons (.var 1) (.nil))) (.int 12)) (.cons (.int 10) (.nil))))) B_law_read_k06_3) (.cons (.set 5 (.bc .len (.cons (.var 3) (.nil)))) (.cons (.ite (.and (.cmp .eq (.bin .mod (.var 5) (.int 2)) (.int 0)) (.and (.chn .lt .lt (.int 1) (.var 5) (.int 21)) (.one (.cmp .eq (.call 53 (.cons (.var 3) (.cons (.var 2) (.nil)))) (.var 1))))) (.cons (.ret (.var 3)) (.nil)) (.nil)) (.nil))))
def B_law_read_k06_5 : Sxs := .cons (.for_ (.one 2) (.it (.tup (.cons (.int 2) (.cons (.int 3) (.nil))))) B_law_read_k06_4) (.nil)
def b_law_read_k06 : Sxs := .cons (.for_ (.one 1) (.it (.tup (.cons (.var 0) (.cons (.sls (.var 0) .no .no (-1)) (.nil))))) B_law_read_k06_5) (.cons (.ret (.str ⟨#[110, 111, 32, 99, 111, 100, 101]⟩)) (.nil))
def F_law_read_k06 : Fd := ⟨"_law_read", 1, ["row", "some", "wide", "figures", "begin", "many", "side", "figure", "pair"], b_law_read_k06⟩
/-! 56: law(script) -/
def B_law_k06_1 : Sxs := .cons (.ite (.not (.call 20 (.cons (.call 54 (.cons (.int 1) (.cons (.var 8) (.cons (.int 0) (.nil))))) (.cons (.call 55 (.cons (.var 8) (.nil))) (.nil))))) (.cons (.ret (.bl false)) (.nil)) (.nil)) (.nil)
def B_law_k06_2 : Sxs := .cons (.set 3 (.bin .add (.call 3 (.cons (.var 0) (.cons (.bin .mod (.var 1) (.int 9)) (.nil)))) (.bin .mul (.int 31) (.var 1)))) (.cons (.unp [10, 11] (.tup (.cons (.call 32 (.cons (.var 3) (.cons (.bin .add (.int 2) (.bin .mul (.int 2) (.call 4 (.cons (.var 3) (.cons (.int 9803) (.cons (.int 10) (.nil))))))) (.nil)))) (.cons (.bin .add (.int 2) (.bin .mod (.var 1) (.int 2))) (.nil))))) (.cons (.set 4 (.call 53 (.cons (.var 10) (.cons (.var 11) (.nil))))) (.cons (.ite (.not (.call 20 (.cons (.call 54 (.cons (.int 0) (.cons (.var 10) (.cons (.var 11) (.nil))))) (.cons (.var 4) (.nil))))) (.cons (.ret (.bl false)) (.nil)) (.nil)) (.cons (.ite (.not (.call 20 (.cons (.tup (.cons (.call 54 (.cons (.int 1) (.cons (.var 4) (.cons (.int 0) (.nil))))) (.cons (.call 54 (.cons (.int 1) (.cons (.sls (.var 4) .no .no (-1)) (.cons (.int 0) (.nil))))) (.nil)))) (.cons (.tup (.cons (.var 10) (.cons (.var 10) (.nil)))) (.nil))))) (.cons (.ret (.bl false)) (.nil)) (.nil)) (.cons (.set 5 (.call 4 (.cons (.bin .add (.call 3 (.cons (.var 0) (.cons (.int 9) (.nil)))) (.var 1)) (.cons (.int 9791) (.cons (.bin .sub (.bc .len (.cons (.var 4) (.nil))) (.int 1)) (.nil)))))) (.cons (.set 6 (.bin .add (.bin .add (.sl (.var 4) .no (.some (.var 5))) (.tup (.cons (.bin .add (.int 1) (.call 4 (.cons (.var 3) (.cons (.int 9787) (.cons (.int 4) (.nil)))))) (.nil)))) (.sl (.var 4) (.some (.bin .add (.var 5) (.int 1))) .no))) (.cons (.set 7 (.bin .add (.bin .add (.sl (.var 4) .no (.some (.var 5))) (.tup (.cons (.sub (.var 4) (.bin .add (.var 5) (.int 1))) (.cons (.sub (.var 4) (.var 5)) (.nil))))) (.sl (.var 4) (.some (.bin .add (.var 5) (.int 2))) .no))) (.cons (.for_ (.one 8) (.it (.tup (.cons (.var 6) (.cons (.var 7) (.cons (.sl (.var 4) .no (.some (.neg (.int 2)))) (.cons (.bin .add (.sl (.var 4) .no (.some (.int 4))) (.sl (.var 4) (.some (.int 14)) .no)) (.cons (.bin .add (.var 4) (.tup (.cons (.int 1) (.cons (.int 1) (.nil))))) (.nil)))))))) B_law_k06_1) (.cons (.set 9 (.lst (.cons (.bin .add (.var 10) (.str ⟨#[49]⟩)) (.cons (.str ⟨#[]⟩) (.cons (.str ⟨#[49]⟩) (.cons (.bin .mul (.str ⟨#[48]⟩) (.int 22)) (.cons (.bin .add (.sl (.var 10) (.some (.int 1)) .no) (.str ⟨#[120]⟩)) (.cons (.str ⟨#[49, 32]⟩) (.nil))))))))) (.cons (.ite (.cmp .ne (.lc (.one 12) (.it (.var 9)) (.some (.cmp .ne (.call 54 (.cons (.int 0) (.cons (.var 12) (.cons (.var 11) (.nil))))) (.str ⟨#[110, 111, 32, 99, 111, 100, 101]⟩))) (.var 12)) (.lst (.nil))) (.cons (.ret (.bl false)) (.nil)) (.nil)) (.nil)))))))))))
def b_law_k06 : Sxs := .cons (.for_ (.one 1) (.rng (.cons (.int 16) (.nil))) B_law_k06_2) (.cons (.set 2 (.tup (.cons (.int 1) (.cons (.int 1) (.cons (.int 1) (.cons (.int 1) (.cons (.int 2) (.cons (.int 1) (.cons (.int 1) (.cons (.int 2) (.cons (.int 1) (.cons (.int 1) (.cons (.int 1) (.cons (.int 1) (.cons (.int 2) (.cons (.int 2) (.cons (.int 2) (.cons (.int 1) (.cons (.int 1) (.nil)))))))))))))))))))) (.cons (.ret (.and (.cmp .eq (.call 49 (.cons (.str ⟨#[49, 50]⟩) (.cons (.int 2) (.nil)))) (.var 2)) (.one (.cmp .eq (.call 54 (.cons (.int 1) (.cons (.tup (.cons (.int 1) (.cons (.int 1) (.cons (.int 1) (.cons (.int 1) (.cons (.int 2) (.cons (.int 1) (.cons (.int 1) (.nil))))))))) (.cons (.int 0) (.nil))))) (.str ⟨#[110, 111, 32, 99, 111, 100, 101]⟩))))) (.nil)))
def F_law_k06 : Fd := ⟨"law", 1, ["script", "k", "due", "cell", "row", "place", "near", "moved", "some", "bad", "figures", "wide", "one"], b_law_k06⟩
/-! 57: must(truth) -/
def b_must : Sxs := .cons (.ite (.not (.var 0)) (.cons (.raise 2) (.nil)) (.nil)) (.nil)
def F_must : Fd := ⟨"must", 1, ["truth"], b_must⟩
/-! 58: sign_of(number) -/
def b_sign_of : Sxs := .cons (.ex (.call 57 (.cons (.chn .le .lt (.int 0) (.var 0) (.bc .len (.cons (.con 22) (.nil)))) (.nil)))) (.cons (.ret (.bc .tuple (.cons (.lc (.one 1) (.it (.sub (.con 22) (.var 0))) .no (.bc .int (.cons (.var 1) (.nil)))) (.nil)))) (.nil))
def F_sign_of : Fd := ⟨"sign_of", 1, ["number", "width"], b_sign_of⟩
/-! 59: is_sign(sign) -/
def b_is_sign : Sxs := .cons (.ret (.and (.cmp .eq (.bc .len (.cons (.var 0) (.nil))) (.int 6)) (.and (.cmp .le (.bc .max (.cons (.var 0) (.nil))) (.int 4)) (.one (.cmp .isin (.mt .join (.str ⟨#[]⟩) (.cons (.lc (.one 1) (.it (.var 0)) .no (.bc .str (.cons (.var 1) (.nil)))) (.nil))) (.con 22)))))) (.nil)
def F_is_sign : Fd := ⟨"is_sign", 1, ["sign", "width"], b_is_sign⟩
/-! 60: number_of(sign) -/
def b_number_of : Sxs := .cons (.ex (.call 57 (.cons (.call 59 (.cons (.var 0) (.nil))) (.nil)))) (.cons (.ret (.mt .indexT (.con 22) (.cons (.mt .join (.str ⟨#[]⟩) (.cons (.lc (.one 1) (.it (.var 0)) .no (.bc .str (.cons (.var 1) (.nil)))) (.nil))) (.nil)))) (.nil))
def F_number_of : Fd := ⟨"number_of", 1, ["sign", "width"], b_number_of⟩
/-! 61: meant(number, name) -/
def b_meant : Sxs := .cons (.ite (.cmp .eq (.var 1) (.str ⟨#[100, 111, 117, 98, 108, 101]⟩)) (.cons (.ex (.call 57 (.cons (.chn .le .lt (.int 0) (.var 0) (.con 16)) (.nil)))) (.cons (.ret (.bin .add (.sub (.con 3) (.bin .fdiv (.var 0) (.int 10))) (.sub (.con 3) (.bin .mod (.var 0) (.int 10))))) (.nil))) (.nil)) (.cons (.set 2 (.ite (.cmp .eq (.var 1) (.str ⟨#[103, 114, 101, 97, 116]⟩)) (.con 14) (.con 13))) (.cons (.ex (.call 57 (.cons (.chn .le .lt (.int 0) (.var 0) (.bc .len (.cons (.var 2) (.nil)))) (.nil)))) (.cons (.ret (.sub (.var 2) (.var 0))) (.nil))))
def F_meant : Fd := ⟨"meant", 2, ["number", "name", "signs"], b_meant⟩
/-! 62: other_set(name) -/
def b_other_set : Sxs := .cons (.ex (.call 57 (.cons (.cmp .ne (.var 0) (.str ⟨#[100, 111, 117, 98, 108, 101]⟩)) (.nil)))) (.cons (.ite (.cmp .eq (.var 0) (.str ⟨#[115, 109, 97, 108, 108]⟩)) (.cons (.ret (.str ⟨#[103, 114, 101, 97, 116]⟩)) (.nil)) (.nil)) (.cons (.ret (.str ⟨#[115, 109, 97, 108, 108]⟩)) (.nil)))
def F_other_set : Fd := ⟨"other_set", 1, ["name"], b_other_set⟩
/-! 63: text_of(numbers) -/
def B_text_of_1 : Sxs := .cons (.ite (.var 3) (.cons (.par [(4, false), (3, false)] (.cons (.bin .add (.var 4) (.call 61 (.cons (.var 1) (.cons (.call 62 (.cons (.var 2) (.nil))) (.nil))))) (.cons (.bl false) (.nil)))) (.nil)) (.cons (.ite (.cmp .eq (.var 1) (.con 17)) (.cons (.ex (.call 57 (.cons (.cmp .ne (.var 2) (.str ⟨#[100, 111, 117, 98, 108, 101]⟩)) (.nil)))) (.cons (.set 3 (.bl true)) (.nil))) (.cons (.ite (.chn .le .lt (.con 16) (.var 1) (.con 17)) (.cons (.ex (.call 57 (.cons (.cmp .ne (.sub (.con 15) (.bin .sub (.var 1) (.con 16))) (.var 2)) (.nil)))) (.cons (.set 2 (.sub (.con 15) (.bin .sub (.var 1) (.con 16)))) (.nil))) (.cons (.set 4 (.bin .add (.var 4) (.call 61 (.cons (.var 1) (.cons (.var 2) (.nil)))))) (.nil))) (.nil))) (.nil))) (.nil)
def b_text_of : Sxs := .cons (.ex (.call 57 (.cons (.and (.cmp .gt (.bc .len (.cons (.var 0) (.nil))) (.int 0)) (.one (.chn .le .lt (.con 18) (.sub (.var 0) (.int 0)) (.bin .add (.con 18) (.int 3))))) (.nil)))) (.cons (.par [(2, false), (3, false), (4, false)] (.cons (.sub (.con 15) (.bin .sub (.sub (.var 0) (.int 0)) (.con 18))) (.cons (.bl false) (.cons (.str ⟨#[]⟩) (.nil))))) (.cons (.for_ (.one 1) (.it (.sl (.var 0) (.some (.int 1)) .no)) B_text_of_1) (.cons (.ex (.call 57 (.cons (.not (.var 3)) (.nil)))) (.cons (.ret (.var 4)) (.nil)))))
def F_text_of : Fd := ⟨"text_of", 1, ["numbers", "number", "name", "is_shifted", "found"], b_text_of⟩
/-! 64: eleven_row(numbers) -/
def B_eleven_row_1 : Sxs := .cons (.set 1 (.bin .add (.var 1) (.call 58 (.cons (.var 2) (.nil))))) (.nil)
def b_eleven_row : Sxs := .cons (.ex (.call 63 (.cons (.var 0) (.nil)))) (.cons (.set 1 (.tup (.nil))) (.cons (.for_ (.one 2) (.it (.bin .add (.var 0) (.tup (.cons (.call 31 (.cons (.var 0) (.cons (.con 21) (.nil)))) (.cons (.con 19) (.nil)))))) B_eleven_row_1) (.cons (.ret (.bin .add (.var 1) (.con 20))) (.nil))))
def F_eleven_row : Fd := ⟨"eleven_row", 1, ["numbers", "found", "number"], b_eleven_row⟩
/-! 65: straight_numbers(row) -/
def b_straight_numbers : Sxs := .cons (.ite (.or (.cmp .ne (.bin .mod (.bc .len (.cons (.var 0) (.nil))) (.int 6)) (.int 1)) (.one (.cmp .ne (.sl (.var 0) (.some (.neg (.int 1))) .no) (.con 20)))) (.cons (.ret (.non)) (.nil)) (.nil)) (.cons (.set 1 (.lc (.one 3) (.rng (.cons (.int 0) (.cons (.bin .sub (.bc .len (.cons (.var 0) (.nil))) (.int 1)) (.cons (.int 6) (.nil))))) .no (.sl (.var 0) (.some (.var 3)) (.some (.bin .add (.var 3) (.int 6)))))) (.cons (.ite (.or (.cmp .lt (.bc .len (.cons (.var 1) (.nil))) (.int 3)) (.one (.not (.bc .all (.cons (.lc (.one 4) (.it (.var 1)) .no (.call 59 (.cons (.var 4) (.nil)))) (.nil)))))) (.cons (.ret (.non)) (.nil)) (.nil)) (.cons (.set 2 (.bc .tuple (.cons (.lc (.one 4) (.it (.var 1)) .no (.call 60 (.cons (.var 4) (.nil)))) (.nil)))) (.cons (.ite (.or (.cmp .ne (.sub (.var 2) (.neg (.int 1))) (.con 19)) (.one (.cmp .ne (.sub (.var 2) (.neg (.int 2))) (.call 31 (.cons (.sl (.var 2) .no (.some (.neg (.int 2)))) (.cons (.con 21) (.nil))))))) (.cons (.ret (.non)) (.nil)) (.nil)) (.cons (.tryo (.cons (.ex (.call 63 (.cons (.sl (.var 2) .no (.some (.neg (.int 2)))) (.nil)))) (.nil)) 2 (.cons (.ret (.non)) (.nil))) (.cons (.ret (.sl (.var 2) .no (.some (.neg (.int 2))))) (.nil)))))))
def F_straight_numbers : Fd := ⟨"straight_numbers", 1, ["row", "some", "found", "k", "sign"], b_straight_numbers⟩
/-! 66: eleven_numbers(row) -/
def b_eleven_numbers : Sxs := .cons (.set 1 (.call 65 (.cons (.var 0) (.nil)))) (.cons (.ite (.cmp .is (.var 1) (.non)) (.cons (.set 1 (.call 65 (.cons (.call 16 (.cons (.var 0) (.nil))) (.nil)))) (.nil)) (.nil)) (.cons (.ex (.call 57 (.cons (.cmp .isnot (.var 1) (.non)) (.nil)))) (.cons (.ret (.var 1)) (.nil))))
def F_eleven_numbers : Fd := ⟨"eleven_numbers", 1, ["row", "found"], b_eleven_numbers⟩
/-! 67: _law_signs() -/
def B_law_signs_1 : Sxs := .cons (.set 3 (.bin .add (.lst (.cons (.bin .add (.int 1) (.bin .mod (.var 4) (.int 4))) (.nil))) (.var 3))) (.cons (.set 4 (.bin .fdiv (.var 4) (.int 4))) (.nil))
def B_law_signs_2 : Sxs := .cons (.par [(3, false), (4, false)] (.cons (.lst (.nil)) (.cons (.var 1) (.nil)))) (.cons (.for_ (.one 2) (.rng (.cons (.int 6) (.nil))) B_law_signs_1) (.cons (.ite (.and (.cmp .eq (.bc .sum (.cons (.var 3) (.nil))) (.int 11)) (.one (.cmp .eq (.bin .mod (.bin .add (.bin .add (.sub (.var 3) (.int 0)) (.sub (.var 3) (.int 2))) (.sub (.var 3) (.int 4))) (.int 2)) (.int 0)))) (.cons (.app 0 (.bc .tuple (.cons (.var 3) (.nil)))) (.nil)) (.nil)) (.nil)))
def b_law_signs : Sxs := .cons (.own 0 (.lst (.nil))) (.cons (.for_ (.one 1) (.rng (.cons (.bin .pow (.int 4) (.int 6)) (.nil))) B_law_signs_2) (.cons (.frz 0) (.cons (.ret (.var 0)) (.nil))))
def F_law_signs : Fd := ⟨"_law_signs", 0, ["gathered", "number", "turn", "widths", "left"], b_law_signs⟩
/-! 68: _law_tells(numbers) -/
def B_law_tells_1 : Sxs := .cons (.ite (.var 6) (.cons (.ite (.not (.chn .le .lt (.int 0) (.var 3) (.int 50))) (.cons (.ret (.non)) (.nil)) (.nil)) (.cons (.par [(5, false), (6, false)] (.cons (.bin .add (.var 5) (.sub (.sub (.var 2) (.bin .sub (.int 1) (.var 4))) (.var 3))) (.cons (.bl false) (.nil)))) (.nil))) (.cons (.ite (.and (.cmp .isin (.var 3) (.tup (.cons (.int 100) (.cons (.int 101) (.cons (.int 102) (.nil)))))) (.one (.cmp .ne (.bin .sub (.var 3) (.int 100)) (.var 4)))) (.cons (.set 4 (.bin .sub (.var 3) (.int 100))) (.nil)) (.cons (.ite (.and (.cmp .eq (.var 3) (.int 103)) (.one (.cmp .lt (.var 4) (.int 2)))) (.cons (.set 6 (.bl true)) (.nil)) (.cons (.ite (.and (.cmp .eq (.var 4) (.int 2)) (.one (.chn .le .lt (.int 0) (.var 3) (.int 100)))) (.cons (.set 5 (.bin .add (.bin .add (.var 5) (.sub (.str ⟨#[48, 49, 50, 51, 52, 53, 54, 55, 56, 57]⟩) (.bin .fdiv (.var 3) (.int 10)))) (.sub (.str ⟨#[48, 49, 50, 51, 52, 53, 54, 55, 56, 57]⟩) (.bin .mod (.var 3) (.int 10))))) (.nil)) (.cons (.ite (.and (.cmp .lt (.var 4) (.int 2)) (.one (.chn .le .lt (.int 0) (.var 3) (.int 50)))) (.cons (.set 5 (.bin .add (.var 5) (.sub (.sub (.var 2) (.var 4)) (.var 3)))) (.nil)) (.cons (.ret (.non)) (.nil))) (.nil))) (.nil))) (.nil))) (.nil))) (.nil)
def b_law_tells : Sxs := .cons (.set 1 (.str ⟨#[32, 48, 49, 50, 51, 52, 53, 54, 55, 56, 57, 46, 44, 58, 59, 33, 63, 45, 43, 42, 47, 40, 41, 61]⟩)) (.cons (.set 2 (.lst (.cons (.bin .add (.str ⟨#[97, 98, 99, 100, 101, 102, 103, 104, 105, 106, 107, 108, 109, 110, 111, 112, 113, 114, 115, 116, 117, 118, 119, 120, 121, 122]⟩) (.var 1)) (.cons (.bin .add (.str ⟨#[65, 66, 67, 68, 69, 70, 71, 72, 73, 74, 75, 76, 77, 78, 79, 80, 81, 82, 83, 84, 85, 86, 87, 88, 89, 90]⟩) (.var 1)) (.nil))))) (.cons (.ite (.or (.cmp .eq (.var 0) (.tup (.nil))) (.one (.cmp .notin (.sub (.var 0) (.int 0)) (.tup (.cons (.int 104) (.cons (.int 105) (.cons (.int 106) (.nil)))))))) (.cons (.ret (.non)) (.nil)) (.nil)) (.cons (.par [(4, false), (5, false), (6, false)] (.cons (.bin .sub (.sub (.var 0) (.int 0)) (.int 104)) (.cons (.str ⟨#[]⟩) (.cons (.bl false) (.nil))))) (.cons (.for_ (.one 3) (.it (.sl (.var 0) (.some (.int 1)) .no)) B_law_tells_1) (.cons (.ret (.ite (.var 6) (.non) (.var 5))) (.nil))))))
def F_law_tells : Fd := ⟨"_law_tells", 1, ["numbers", "rest", "sets", "number", "here", "text", "shifted"], b_law_tells⟩
/-! 69: _law_eleven_row(numbers, signs) -/
def B_law_eleven_row_1 : Sxs := .cons (.set 2 (.bin .add (.var 2) (.bin .mul (.var 5) (.var 4)))) (.nil)
def B_law_eleven_row_2 : Sxs := .cons (.set 3 (.bin .add (.var 3) (.sub (.var 1) (.var 4)))) (.nil)
def b_law_eleven_row : Sxs := .cons (.set 2 (.sub (.var 0) (.int 0))) (.cons (.for_ (.tup [5, 4]) (.enum (.var 0)) B_law_eleven_row_1) (.cons (.set 3 (.tup (.nil))) (.cons (.for_ (.one 4) (.it (.bin .add (.var 0) (.tup (.cons (.bin .mod (.var 2) (.int 103)) (.cons (.int 107) (.nil)))))) B_law_eleven_row_2) (.cons (.ret (.bin .add (.var 3) (.tup (.cons (.int 2) (.nil))))) (.nil)))))
def F_law_eleven_row : Fd := ⟨"_law_eleven_row", 2, ["numbers", "signs", "total_now", "gathered", "number", "k"], b_law_eleven_row⟩
/-! 70: _law_numbers(cell) -/
def B_law_numbers_1 : Sxs := .cons (.set 4 (.bin .add (.var 0) (.bin .mul (.int 13) (.var 1)))) (.cons (.set 5 (.call 4 (.cons (.var 4) (.cons (.int 9929) (.cons (.int 8) (.nil)))))) (.cons (.ite (.cmp .eq (.var 5) (.int 0)) (.cons (.set 3 (.bin .mod (.bin .add (.bin .add (.var 3) (.int 1)) (.call 4 (.cons (.var 4) (.cons (.int 9923) (.cons (.int 2) (.nil)))))) (.int 3))) (.cons (.set 2 (.bin .add (.var 2) (.tup (.cons (.bin .add (.int 100) (.var 3)) (.nil))))) (.nil))) (.cons (.ite (.and (.cmp .eq (.var 5) (.int 1)) (.one (.cmp .lt (.var 3) (.int 2)))) (.cons (.set 2 (.bin .add (.var 2) (.tup (.cons (.int 103) (.cons (.call 4 (.cons (.var 4) (.cons (.int 9907) (.cons (.int 50) (.nil))))) (.nil)))))) (.nil)) (.cons (.set 2 (.bin .add (.var 2) (.tup (.cons (.call 4 (.cons (.var 4) (.cons (.int 9901) (.cons (.bin .add (.int 50) (.bin .mul (.int 50) (.bc .int (.cons (.cmp .eq (.var 3) (.int 2)) (.nil))))) (.nil))))) (.nil))))) (.nil))) (.nil))) (.nil)))
def b_law_numbers : Sxs := .cons (.par [(2, false), (3, false)] (.cons (.tup (.cons (.bin .add (.int 104) (.call 4 (.cons (.var 0) (.cons (.int 9941) (.cons (.int 3) (.nil)))))) (.nil))) (.cons (.call 4 (.cons (.var 0) (.cons (.int 9941) (.cons (.int 3) (.nil))))) (.nil)))) (.cons (.for_ (.one 1) (.rng (.cons (.call 4 (.cons (.var 0) (.cons (.int 9931) (.cons (.int 9) (.nil))))) (.nil))) B_law_numbers_1) (.cons (.ret (.var 2)) (.nil)))
def F_law_numbers : Fd := ⟨"_law_numbers", 1, ["cell", "j", "gathered", "here", "seed", "way"], b_law_numbers⟩
/-! 71: _law_said(way, thing) -/
def b_law_said_k07 : Sxs := .cons (.tryw (.cons (.ite (.cmp .eq (.var 0) (.int 0)) (.cons (.ret (.call 63 (.cons (.var 1) (.nil)))) (.nil)) (.nil)) (.cons (.ite (.cmp .eq (.var 0) (.int 1)) (.cons (.ret (.call 64 (.cons (.var 1) (.nil)))) (.nil)) (.nil)) (.cons (.ite (.cmp .eq (.var 0) (.int 2)) (.cons (.ret (.call 66 (.cons (.var 1) (.nil)))) (.nil)) (.nil)) (.cons (.ret (.ite (.cmp .eq (.var 0) (.int 3)) (.call 58 (.cons (.var 1) (.nil))) (.call 60 (.cons (.var 1) (.nil))))) (.nil))))) 0 2) (.nil)
def F_law_said_k07 : Fd := ⟨"_law_said", 2, ["way", "thing", "e"], b_law_said_k07⟩
/-! 72: _law_read(row, signs) -/
def B_law_read_k07_1 : Sxs := .cons (.set 3 (.lc (.one 5) (.rng (.cons (.int 0) (.cons (.bin .sub (.bc .len (.cons (.var 2) (.nil))) (.int 1)) (.cons (.int 6) (.nil))))) .no (.sl (.var 2) (.some (.var 5)) (.some (.bin .add (.var 5) (.int 6)))))) (.cons (.ite (.and (.cmp .eq (.bin .mod (.bc .len (.cons (.var 2) (.nil))) (.int 6)) (.int 1)) (.and (.cmp .gt (.bc .len (.cons (.var 3) (.nil))) (.int 2)) (.one (.cmp .eq (.lc (.one 6) (.it (.var 3)) (.some (.cmp .notin (.var 6) (.var 1))) (.var 6)) (.lst (.nil)))))) (.cons (.set 4 (.sl (.bc .tuple (.cons (.lc (.one 6) (.it (.var 3)) .no (.mt .indexL (.var 1) (.cons (.var 6) (.nil)))) (.nil))) .no (.some (.neg (.int 2))))) (.cons (.ite (.and (.cmp .isnot (.call 68 (.cons (.var 4) (.nil))) (.non)) (.one (.cmp .eq (.call 69 (.cons (.var 4) (.cons (.var 1) (.nil)))) (.var 2)))) (.cons (.ret (.var 4)) (.nil)) (.nil)) (.nil))) (.nil)) (.nil))
def b_law_read_k07 : Sxs := .cons (.for_ (.one 2) (.it (.tup (.cons (.var 0) (.cons (.sls (.var 0) .no .no (-1)) (.nil))))) B_law_read_k07_1) (.cons (.ret (.str ⟨#[110, 111, 32, 99, 111, 100, 101]⟩)) (.nil))
def F_law_read_k07 : Fd := ⟨"_law_read", 2, ["row", "signs", "some", "six", "numbers", "k", "one"], b_law_read_k07⟩
/-! 73: law(script) -/
def B_law_k07_1 : Sxs := .cons (.set 4 (.ite (.chn .le .lt (.int 0) (.var 2) (.int 108)) (.sub (.var 1) (.var 2)) (.str ⟨#[110, 111, 32, 99, 111, 100, 101]⟩))) (.cons (.ite (.or (.not (.call 20 (.cons (.call 71 (.cons (.int 3) (.cons (.var 2) (.nil)))) (.cons (.var 4) (.nil))))) (.one (.and (.inr (.var 2) (.int 108)) (.one (.cmp .ne (.call 71 (.cons (.int 4) (.cons (.var 4) (.nil)))) (.var 2)))))) (.cons (.ret (.bl false)) (.nil)) (.nil)) (.nil))
def B_law_k07_2 : Sxs := .cons (.set 14 (.call 68 (.cons (.var 9) (.nil)))) (.cons (.set 4 (.tup (.cons (.str ⟨#[110, 111, 32, 99, 111, 100, 101]⟩) (.cons (.str ⟨#[110, 111, 32, 99, 111, 100, 101]⟩) (.nil))))) (.cons (.ite (.cmp .isnot (.var 14) (.non)) (.cons (.set 4 (.tup (.cons (.var 14) (.cons (.call 69 (.cons (.var 9) (.cons (.var 1) (.nil)))) (.nil))))) (.nil)) (.nil)) (.cons (.ite (.not (.call 20 (.cons (.tup (.cons (.call 71 (.cons (.int 0) (.cons (.var 9) (.nil)))) (.cons (.call 71 (.cons (.int 1) (.cons (.var 9) (.nil)))) (.nil)))) (.cons (.var 4) (.nil))))) (.cons (.ret (.bl false)) (.nil)) (.nil)) (.nil))))
def B_law_k07_3 : Sxs := .cons (.ite (.not (.call 20 (.cons (.call 71 (.cons (.int 2) (.cons (.var 9) (.nil)))) (.cons (.call 72 (.cons (.var 9) (.cons (.var 1) (.nil)))) (.nil))))) (.cons (.ret (.bl false)) (.nil)) (.nil)) (.nil)
def B_law_k07_4 : Sxs := .cons (.set 5 (.bin .add (.call 3 (.cons (.var 0) (.cons (.bin .mod (.var 3) (.int 9)) (.nil)))) (.bin .mul (.int 31) (.var 3)))) (.cons (.set 6 (.call 70 (.cons (.var 5) (.nil)))) (.cons (.set 7 (.call 4 (.cons (.var 5) (.cons (.int 9781) (.cons (.bc .len (.cons (.var 6) (.nil))) (.nil)))))) (.cons (.set 8 (.bin .add (.bin .add (.sl (.var 6) .no (.some (.var 7))) (.tup (.cons (.call 4 (.cons (.bin .add (.call 3 (.cons (.var 0) (.cons (.int 9) (.nil)))) (.var 3)) (.cons (.int 9769) (.cons (.int 108) (.nil))))) (.nil)))) (.sl (.var 6) (.some (.bin .add (.var 7) (.int 1))) .no))) (.cons (.for_ (.one 9) (.it (.tup (.cons (.var 6) (.cons (.var 8) (.cons (.bin .add (.var 6) (.tup (.cons (.int 103) (.nil)))) (.cons (.sl (.var 6) (.some (.int 1)) .no) (.cons (.bin .add (.var 6) (.tup (.cons (.int 107) (.nil)))) (.nil)))))))) B_law_k07_2) (.cons (.set 10 (.call 69 (.cons (.var 6) (.cons (.var 1) (.nil))))) (.cons (.set 7 (.call 4 (.cons (.bin .add (.call 3 (.cons (.var 0) (.cons (.int 9) (.nil)))) (.bin .mul (.int 3) (.var 3))) (.cons (.int 9767) (.cons (.bin .sub (.bc .len (.cons (.var 10) (.nil))) (.int 1)) (.nil)))))) (.cons (.set 11 (.bin .add (.bin .add (.sl (.var 10) .no (.some (.var 7))) (.tup (.cons (.bin .add (.int 1) (.call 4 (.cons (.var 5) (.cons (.int 9749) (.cons (.int 4) (.nil)))))) (.nil)))) (.sl (.var 10) (.some (.bin .add (.var 7) (.int 1))) .no))) (.cons (.set 12 (.bin .add (.bin .add (.sl (.var 10) .no (.some (.var 7))) (.tup (.cons (.sub (.var 10) (.bin .add (.var 7) (.int 1))) (.cons (.sub (.var 10) (.var 7)) (.nil))))) (.sl (.var 10) (.some (.bin .add (.var 7) (.int 2))) .no))) (.cons (.set 13 (.bin .add (.bin .add (.sl (.var 10) .no (.some (.int 6))) (.sub (.var 1) (.call 4 (.cons (.var 5) (.cons (.int 9743) (.cons (.int 108) (.nil))))))) (.sl (.var 10) (.some (.int 12)) .no))) (.cons (.for_ (.one 9) (.it (.tup (.cons (.var 10) (.cons (.sls (.var 10) .no .no (-1)) (.cons (.var 11) (.cons (.var 12) (.cons (.var 13) (.cons (.sl (.var 10) .no (.some (.neg (.int 6)))) (.cons (.bin .add (.var 10) (.tup (.cons (.int 1) (.cons (.int 1) (.nil))))) (.nil)))))))))) B_law_k07_3) (.cons (.ite (.cmp .ne (.call 71 (.cons (.int 4) (.cons (.sl (.var 11) .no (.some (.int 6))) (.nil)))) (.ite (.cmp .isin (.sl (.var 11) .no (.some (.int 6))) (.var 1)) (.mt .indexL (.var 1) (.cons (.sl (.var 11) .no (.some (.int 6))) (.nil))) (.str ⟨#[110, 111, 32, 99, 111, 100, 101]⟩))) (.cons (.ret (.bl false)) (.nil)) (.nil)) (.nil))))))))))))
def b_law_k07 : Sxs := .cons (.set 1 (.call 67 (.nil))) (.cons (.for_ (.one 2) (.rng (.cons (.neg (.int 1)) (.cons (.int 110) (.nil)))) B_law_k07_1) (.cons (.for_ (.one 3) (.rng (.cons (.int 16) (.nil))) B_law_k07_4) (.cons (.ite (.cmp .ne (.call 63 (.cons (.tup (.cons (.int 106) (.cons (.int 0) (.cons (.int 99) (.cons (.int 100) (.cons (.int 0) (.nil))))))) (.nil))) (.str ⟨#[48, 48, 57, 57, 97]⟩)) (.cons (.ret (.bl false)) (.nil)) (.nil)) (.cons (.ite (.or (.cmp .ne (.call 63 (.cons (.tup (.cons (.int 104) (.cons (.int 7) (.cons (.int 103) (.cons (.int 8) (.cons (.int 102) (.cons (.int 42) (.nil)))))))) (.nil))) (.str ⟨#[104, 73, 52, 50]⟩)) (.one (.cmp .ne (.call 71 (.cons (.int 0) (.cons (.tup (.nil)) (.nil)))) (.str ⟨#[110, 111, 32, 99, 111, 100, 101]⟩)))) (.cons (.ret (.bl false)) (.nil)) (.nil)) (.cons (.ret (.cmp .eq (.call 71 (.cons (.int 4) (.cons (.tup (.cons (.int 1) (.cons (.int 1) (.nil)))) (.nil)))) (.str ⟨#[110, 111, 32, 99, 111, 100, 101]⟩))) (.nil))))))
def F_law_k07 : Fd := ⟨"law", 1, ["script", "signs", "number", "k", "due", "cell", "numbers", "place", "odd", "some", "row", "near", "moved", "other", "text"], b_law_k07⟩
/-! 74: _law_read(kind, row) -/
def b_law_read_k08 : Sxs := .cons (.ite (.cmp .eq (.var 0) (.int 0)) (.cons (.ret (.call 42 (.cons (.var 1) (.nil)))) (.nil)) (.nil)) (.cons (.ret (.ite (.cmp .eq (.var 0) (.int 1)) (.call 52 (.cons (.var 1) (.nil))) (.call 66 (.cons (.var 1) (.nil))))) (.nil))
def F_law_read_k08 : Fd := ⟨"_law_read", 2, ["kind", "row"], b_law_read_k08⟩
/-! 75: _law_reads(row) -/
def B_law_reads_1 : Sxs := .cons (.tryo (.cons (.app 1 (.call 74 (.cons (.var 2) (.cons (.var 0) (.nil))))) (.nil)) 0 (.cons (.app 1 (.non)) (.nil))) (.nil)
def b_law_reads : Sxs := .cons (.own 1 (.lst (.nil))) (.cons (.for_ (.one 2) (.it (.tup (.cons (.int 0) (.cons (.int 1) (.cons (.int 2) (.nil)))))) B_law_reads_1) (.cons (.frz 1) (.cons (.ret (.var 1)) (.nil))))
def F_law_reads : Fd := ⟨"_law_reads", 1, ["row", "gathered", "kind"], b_law_reads⟩
/-! 76: _law_are_signs() -/
def B_law_are_signs_1 : Sxs := .cons (.set 1 (.call 58 (.cons (.var 0) (.nil)))) (.cons (.ite (.or (.cmp .ne (.call 60 (.cons (.var 1) (.nil))) (.var 0)) (.or (.cmp .ne (.bc .sum (.cons (.var 1) (.nil))) (.int 11)) (.one (.cmp .eq (.bin .mod (.bc .sum (.cons (.sls (.var 1) (.some (.int 0)) .no (2)) (.nil))) (.int 2)) (.int 1))))) (.cons (.ret (.bl false)) (.nil)) (.nil)) (.cons (.ite (.and (.cmp .gt (.var 0) (.int 0)) (.one (.cmp .ge (.call 58 (.cons (.bin .sub (.var 0) (.int 1)) (.nil))) (.var 1)))) (.cons (.ret (.bl false)) (.nil)) (.nil)) (.nil)))
def b_law_are_signs : Sxs := .cons (.for_ (.one 0) (.rng (.cons (.int 108) (.nil))) B_law_are_signs_1) (.cons (.ret (.bl true)) (.nil))
def F_law_are_signs : Fd := ⟨"_law_are_signs", 0, ["number", "sign"], b_law_are_signs⟩
/-! 77: law(script) -/
def B_law_k08_1 : Sxs := .cons (.ite (.or (.cmp .isnot (.call 1 (.cons (.var 9) (.nil))) (.bl true)) (.or (.cmp .ne (.call 75 (.cons (.call 17 (.cons (.var 9) (.cons (.int 2) (.nil)))) (.nil))) (.bin .mul (.lst (.cons (.non) (.nil))) (.int 3))) (.one (.cmp .ne (.call 16 (.cons (.call 16 (.cons (.var 9) (.nil))) (.nil))) (.var 9))))) (.cons (.ret (.bl false)) (.nil)) (.nil)) (.nil)
def B_law_k08_2 : Sxs := .cons (.set 2 (.bin .add (.call 3 (.cons (.var 0) (.cons (.bin .mod (.var 1) (.int 9)) (.nil)))) (.bin .mul (.int 31) (.var 1)))) (.cons (.set 3 (.call 32 (.cons (.var 2) (.cons (.int 12) (.nil))))) (.cons (.set 4 (.call 38 (.cons (.var 3) (.nil)))) (.cons (.set 5 (.call 42 (.cons (.var 4) (.nil)))) (.cons (.ite (.or (.cmp .isnot (.call 27 (.cons (.var 5) (.nil))) (.bl true)) (.or (.cmp .ne (.sl (.var 5) .no (.some (.int 12))) (.var 3)) (.one (.cmp .ne (.call 38 (.cons (.var 5) (.nil))) (.var 4))))) (.cons (.ret (.bl false)) (.nil)) (.nil)) (.cons (.ite (.cmp .ne (.tup (.cons (.bc .len (.cons (.var 4) (.nil))) (.cons (.call 11 (.cons (.var 4) (.nil))) (.nil)))) (.tup (.cons (.int 59) (.cons (.int 95) (.nil))))) (.cons (.ret (.bl false)) (.nil)) (.nil)) (.cons (.ite (.or (.cmp .ne (.call 75 (.cons (.var 4) (.nil))) (.lst (.cons (.var 5) (.cons (.non) (.cons (.non) (.nil)))))) (.one (.cmp .ne (.call 75 (.cons (.call 16 (.cons (.var 4) (.nil))) (.nil))) (.lst (.cons (.var 5) (.cons (.non) (.cons (.non) (.nil)))))))) (.cons (.ret (.bl false)) (.nil)) (.nil)) (.cons (.par [(11, false), (12, false)] (.cons (.bin .add (.int 2) (.bin .mul (.int 2) (.bin .mod (.var 1) (.int 10)))) (.cons (.bin .add (.int 2) (.bin .mod (.var 1) (.int 2))) (.nil)))) (.cons (.set 6 (.call 32 (.cons (.bin .add (.var 2) (.int 1)) (.cons (.var 11) (.nil))))) (.cons (.set 7 (.call 49 (.cons (.var 6) (.cons (.var 12) (.nil))))) (.cons (.ite (.cmp .ne (.tup (.cons (.bc .len (.cons (.var 7) (.nil))) (.cons (.call 11 (.cons (.var 7) (.nil))) (.nil)))) (.tup (.cons (.bin .add (.int 7) (.bin .mul (.int 5) (.var 11))) (.cons (.bin .add (.bin .add (.int 6) (.var 12)) (.bin .mul (.var 11) (.bin .add (.int 3) (.bin .mul (.int 2) (.var 12))))) (.nil))))) (.cons (.ret (.bl false)) (.nil)) (.nil)) (.cons (.ite (.or (.cmp .ne (.call 75 (.cons (.var 7) (.nil))) (.lst (.cons (.non) (.cons (.var 6) (.cons (.non) (.nil)))))) (.one (.cmp .ne (.call 75 (.cons (.call 16 (.cons (.var 7) (.nil))) (.nil))) (.lst (.cons (.non) (.cons (.var 6) (.cons (.non) (.nil)))))))) (.cons (.ret (.bl false)) (.nil)) (.nil)) (.cons (.set 8 (.call 70 (.cons (.bin .add (.var 2) (.int 2)) (.nil)))) (.cons (.ite (.cmp .isnot (.call 68 (.cons (.var 8) (.nil))) (.non)) (.cons (.set 13 (.call 64 (.cons (.var 8) (.nil)))) (.cons (.ite (.or (.cmp .ne (.call 63 (.cons (.var 8) (.nil))) (.call 68 (.cons (.var 8) (.nil)))) (.one (.cmp .ne (.call 11 (.cons (.var 13) (.nil))) (.bin .add (.bin .mul (.int 11) (.bin .add (.bc .len (.cons (.var 8) (.nil))) (.int 2))) (.int 2))))) (.cons (.ret (.bl false)) (.nil)) (.nil)) (.cons (.set 14 (.call 64 (.cons (.call 66 (.cons (.call 16 (.cons (.var 13) (.nil))) (.nil))) (.nil)))) (.cons (.ite (.or (.cmp .ne (.call 66 (.cons (.var 13) (.nil))) (.var 8)) (.one (.cmp .notin (.var 14) (.tup (.cons (.var 13) (.cons (.call 16 (.cons (.var 13) (.nil))) (.nil))))))) (.cons (.ret (.bl false)) (.nil)) (.nil)) (.cons (.ite (.or (.cmp .ne (.sl (.call 75 (.cons (.var 13) (.nil))) .no (.some (.int 2))) (.lst (.cons (.non) (.cons (.non) (.nil))))) (.one (.cmp .ne (.call 75 (.cons (.call 17 (.cons (.var 13) (.cons (.int 2) (.nil)))) (.nil))) (.bin .mul (.lst (.cons (.non) (.nil))) (.int 3))))) (.cons (.ret (.bl false)) (.nil)) (.nil)) (.nil)))))) (.nil)) (.cons (.for_ (.one 9) (.it (.tup (.cons (.var 4) (.cons (.var 7) (.nil))))) B_law_k08_1) (.cons (.set 10 (.bin .add (.sl (.var 3) .no (.some (.neg (.int 1)))) (.sub (.str ⟨#[48, 49, 50, 51, 52, 53, 54, 55, 56, 57]⟩) (.bin .mod (.bin .add (.mt .indexS (.str ⟨#[48, 49, 50, 51, 52, 53, 54, 55, 56, 57]⟩) (.cons (.sub (.var 3) (.neg (.int 1))) (.nil))) (.int 1)) (.int 10))))) (.cons (.ite (.cmp .eq (.call 38 (.cons (.var 10) (.nil))) (.var 4)) (.cons (.ret (.bl false)) (.nil)) (.nil)) (.nil)))))))))))))))))
def b_law_k08 : Sxs := .cons (.for_ (.one 1) (.rng (.cons (.int 12) (.nil))) B_law_k08_2) (.cons (.ret (.call 76 (.nil))) (.nil))
def F_law_k08 : Fd := ⟨"law", 1, ["script", "k", "cell", "figures", "row", "full", "pair", "other", "numbers", "some", "near", "many", "wide", "third", "again"], b_law_k08⟩
/-! 78: heads(text, name) -/
def B_heads_1 : Sxs := .cons (.ite (.cmp .ne (.var 4) (.var 1)) (.cons (.app 2 (.tup (.cons (.tup (.cons (.bin .add (.con 16) (.var 3)) (.nil))) (.cons (.int 0) (.cons (.var 4) (.nil)))))) (.nil)) (.nil)) (.nil)
def b_heads : Sxs := .cons (.own 2 (.lst (.nil))) (.cons (.for_ (.tup [3, 4]) (.enum (.con 15)) B_heads_1) (.cons (.ite (.cmp .eq (.var 1) (.str ⟨#[100, 111, 117, 98, 108, 101]⟩)) (.cons (.ite (.and (.cmp .gt (.bc .len (.cons (.var 0) (.nil))) (.int 1)) (.one (.call 37 (.cons (.sl (.var 0) .no (.some (.int 2))) (.nil))))) (.cons (.app 2 (.tup (.cons (.tup (.cons (.bc .int (.cons (.sl (.var 0) .no (.some (.int 2))) (.nil))) (.nil))) (.cons (.int 2) (.cons (.var 1) (.nil)))))) (.nil)) (.nil)) (.cons (.frz 2) (.cons (.ret (.var 2)) (.nil)))) (.nil)) (.cons (.unp [5, 6] (.ite (.cmp .eq (.var 1) (.str ⟨#[115, 109, 97, 108, 108]⟩)) (.tup (.cons (.con 13) (.cons (.con 14) (.nil)))) (.tup (.cons (.con 14) (.cons (.con 13) (.nil)))))) (.cons (.ite (.cmp .isin (.sl (.var 0) .no (.some (.int 1))) (.var 5)) (.cons (.app 2 (.tup (.cons (.tup (.cons (.mt .indexS (.var 5) (.cons (.sub (.var 0) (.int 0)) (.nil))) (.nil))) (.cons (.int 1) (.cons (.var 1) (.nil)))))) (.nil)) (.nil)) (.cons (.ite (.cmp .isin (.sl (.var 0) .no (.some (.int 1))) (.var 6)) (.cons (.app 2 (.tup (.cons (.tup (.cons (.con 17) (.cons (.mt .indexS (.var 6) (.cons (.sub (.var 0) (.int 0)) (.nil))) (.nil)))) (.cons (.int 1) (.cons (.var 1) (.nil)))))) (.nil)) (.nil)) (.cons (.frz 2) (.cons (.ret (.var 2)) (.nil))))))))
def F_heads : Fd := ⟨"heads", 2, ["text", "name", "found", "k", "other", "mine", "yours"], b_heads⟩
/-! 79: is_better(one, other) -/
def b_is_better : Sxs := .cons (.ret (.or (.cmp .is (.var 1) (.non)) (.one (.cmp .lt (.tup (.cons (.bc .len (.cons (.var 0) (.nil))) (.cons (.var 0) (.nil)))) (.tup (.cons (.bc .len (.cons (.var 1) (.nil))) (.cons (.var 1) (.nil)))))))) (.nil)
def F_is_better : Fd := ⟨"is_better", 2, ["one", "other"], b_is_better⟩
/-! 80: shortest(text) -/
def B_shortest_1 : Sxs := .cons (.setd 1 (.cons (.var 2) (.cons (.var 4) (.nil))) (.ite (.cmp .eq (.var 2) (.bc .len (.cons (.var 0) (.nil)))) (.tup (.nil)) (.non))) (.nil)
def B_shortest_2 : Sxs := .cons (.set 10 (.getd 1 (.cons (.bin .add (.var 2) (.var 8)) (.cons (.var 9) (.nil))))) (.cons (.ite (.and (.cmp .isnot (.var 10) (.non)) (.one (.call 79 (.cons (.bin .add (.var 7) (.var 10)) (.cons (.getd 1 (.cons (.var 2) (.cons (.var 4) (.nil)))) (.nil)))))) (.cons (.setd 1 (.cons (.var 2) (.cons (.var 4) (.nil))) (.bin .add (.var 7) (.var 10))) (.nil)) (.nil)) (.nil))
def B_shortest_3 : Sxs := .cons (.for_ (.tup [7, 8, 9]) (.it (.ite (.cmp .lt (.var 2) (.bc .len (.cons (.var 0) (.nil)))) (.call 78 (.cons (.sl (.var 0) (.some (.var 2)) .no) (.cons (.var 4) (.nil)))) (.lst (.nil)))) B_shortest_2) (.nil)
def B_shortest_4 : Sxs := .cons (.for_ (.one 4) (.it (.con 15)) B_shortest_3) (.nil)
def B_shortest_5 : Sxs := .cons (.for_ (.one 4) (.it (.con 15)) B_shortest_1) (.cons (.for_ (.one 5) (.it (.tup (.cons (.int 0) (.cons (.int 1) (.nil))))) B_shortest_4) (.nil))
def b_shortest : Sxs := .cons (.ex (.call 57 (.cons (.and (.cmp .le (.bc .len (.cons (.var 0) (.nil))) (.con 23)) (.one (.bc .all (.cons (.lc (.one 12) (.it (.var 0)) .no (.cmp .isin (.var 12) (.bin .add (.con 13) (.con 14)))) (.nil))))) (.nil)))) (.cons (.newd 1) (.cons (.for_ (.one 2) (.rng (.cons (.bc .len (.cons (.var 0) (.nil))) (.cons (.neg (.int 1)) (.cons (.neg (.int 1)) (.nil))))) B_shortest_5) (.cons (.set 3 (.lc (.tup [6, 4]) (.enum (.con 15)) (.some (.cmp .isnot (.getd 1 (.cons (.int 0) (.cons (.var 4) (.nil)))) (.non))) (.bin .add (.tup (.cons (.bin .add (.con 18) (.var 6)) (.nil))) (.getd 1 (.cons (.int 0) (.cons (.var 4) (.nil))))))) (.cons (.ret (.sub (.bc .min (.cons (.lc (.one 11) (.it (.var 3)) .no (.tup (.cons (.bc .len (.cons (.var 11) (.nil))) (.cons (.var 11) (.nil))))) (.nil))) (.int 1))) (.nil)))))
def F_shortest : Fd := ⟨"shortest", 1, ["text", "best", "place", "found", "name", "turn", "k", "some", "many", "then", "rest", "one", "sign"], b_shortest⟩
/-! 81: how_long(text) -/
def b_how_long : Sxs := .cons (.ret (.call 11 (.cons (.call 64 (.cons (.call 80 (.cons (.var 0) (.nil))) (.nil))) (.nil)))) (.nil)
def F_how_long : Fd := ⟨"how_long", 1, ["text"], b_how_long⟩
/-! 82: eleven_of(row) -/
def b_eleven_of : Sxs := .cons (.ret (.call 63 (.cons (.call 66 (.cons (.var 0) (.nil))) (.nil)))) (.nil)
def F_eleven_of : Fd := ⟨"eleven_of", 1, ["row"], b_eleven_of⟩
/-! 84: _law_further(here, text, sets) -/
def B_law_further_1 : Sxs := .cons (.ite (.or (.cmp .notin (.tup (.cons (.var 10) (.cons (.var 11) (.nil)))) (.var 3)) (.one (.cmp .lt (.var 12) (.getd 3 (.cons (.var 10) (.cons (.var 11) (.nil))))))) (.cons (.setd 3 (.cons (.var 10) (.cons (.var 11) (.nil))) (.var 12)) (.nil)) (.nil)) (.nil)
def B_law_further_2 : Sxs := .cons (.set 6 (.sub (.var 0) (.tup (.cons (.var 4) (.cons (.var 5) (.nil)))))) (.cons (.ite (.bc .isi (.cons (.var 4) (.cons (.ty 3) (.nil)))) (.cons (.own 7 (.lst (.cons (.tup (.cons (.sub (.var 4) (.int 0)) (.cons (.var 5) (.cons (.bin .add (.var 6) (.tup (.cons (.sub (.var 4) (.int 1)) (.nil)))) (.nil))))) (.nil)))) (.nil)) (.cons (.own 7 (.lc (.one 14) (.it (.tup (.cons (.int 0) (.cons (.int 1) (.cons (.int 2) (.nil)))))) (.some (.cmp .ne (.var 14) (.var 4))) (.tup (.cons (.var 14) (.cons (.var 5) (.cons (.bin .add (.var 6) (.tup (.cons (.bin .add (.int 100) (.var 14)) (.nil)))) (.nil))))))) (.cons (.set 8 (.sl (.var 1) (.some (.var 5)) (.some (.bin .add (.var 5) (.int 1))))) (.cons (.set 9 (.sl (.var 1) (.some (.var 5)) (.some (.bin .add (.var 5) (.int 2))))) (.cons (.ite (.and (.cmp .eq (.var 4) (.int 2)) (.and (.cmp .eq (.bc .len (.cons (.var 9) (.nil))) (.int 2)) (.one (.cmp .eq (.lc (.one 15) (.it (.var 9)) (.some (.cmp .notin (.var 15) (.str ⟨#[48, 49, 50, 51, 52, 53, 54, 55, 56, 57]⟩))) (.var 15)) (.lst (.nil)))))) (.cons (.set 13 (.bin .add (.bin .mul (.int 10) (.mt .indexS (.str ⟨#[48, 49, 50, 51, 52, 53, 54, 55, 56, 57]⟩) (.cons (.sub (.var 9) (.int 0)) (.nil)))) (.mt .indexS (.str ⟨#[48, 49, 50, 51, 52, 53, 54, 55, 56, 57]⟩) (.cons (.sub (.var 9) (.int 1)) (.nil))))) (.cons (.app 7 (.tup (.cons (.int 2) (.cons (.bin .add (.var 5) (.int 2)) (.cons (.bin .add (.var 6) (.tup (.cons (.var 13) (.nil)))) (.nil)))))) (.nil))) (.nil)) (.cons (.ite (.and (.cmp .lt (.var 4) (.int 2)) (.one (.cmp .isin (.var 8) (.sub (.var 2) (.var 4))))) (.cons (.app 7 (.tup (.cons (.var 4) (.cons (.bin .add (.var 5) (.int 1)) (.cons (.bin .add (.var 6) (.tup (.cons (.mt .indexS (.sub (.var 2) (.var 4)) (.cons (.var 8) (.nil))) (.nil)))) (.nil)))))) (.nil)) (.nil)) (.cons (.ite (.and (.cmp .lt (.var 4) (.int 2)) (.one (.cmp .isin (.var 8) (.sub (.var 2) (.bin .sub (.int 1) (.var 4)))))) (.cons (.app 7 (.tup (.cons (.tup (.cons (.var 4) (.cons (.mt .indexS (.sub (.var 2) (.bin .sub (.int 1) (.var 4))) (.cons (.var 8) (.nil))) (.nil)))) (.cons (.bin .add (.var 5) (.int 1)) (.cons (.bin .add (.var 6) (.tup (.cons (.int 103) (.nil)))) (.nil)))))) (.nil)) (.nil)) (.nil)))))))) (.cons (.frz 7) (.cons (.for_ (.tup [10, 11, 12]) (.it (.var 7)) B_law_further_1) (.nil))))
def b_law_further : Sxs := .cons (.newd 3) (.cons (.for_ (.tup [4, 5]) (.it (.var 0)) B_law_further_2) (.cons (.ret (.var 3)) (.nil)))
def F_law_further : Fd := ⟨"_law_further", 3, ["here", "text", "sets", "new", "name", "place", "row", "some", "sign", "pair", "then", "there", "numbers", "number", "k", "one"], b_law_further⟩
/-! 85: _law_signs_text(cell, most) -/
def B_law_signs_text_1 : Sxs := .cons (.set 4 (.bin .add (.bin .add (.var 0) (.bin .mul (.int 17) (.bin .fdiv (.var 3) (.bin .add (.int 1) (.call 4 (.cons (.var 0) (.cons (.int 9733) (.cons (.int 4) (.nil))))))))) (.int 1))) (.cons (.set 5 (.sub (.tup (.cons (.str ⟨#[97, 98, 122]⟩) (.cons (.str ⟨#[65, 81]⟩) (.cons (.str ⟨#[48, 49, 50, 51, 52, 53, 54, 55, 56, 57]⟩) (.cons (.str ⟨#[120, 89, 55]⟩) (.cons (.str ⟨#[46, 61, 32]⟩) (.cons (.str ⟨#[48, 48, 57, 57]⟩) (.nil)))))))) (.call 4 (.cons (.var 4) (.cons (.int 9721) (.cons (.int 6) (.nil))))))) (.cons (.set 2 (.bin .add (.var 2) (.sub (.var 5) (.call 4 (.cons (.bin .add (.var 4) (.var 3)) (.cons (.int 9719) (.cons (.bc .len (.cons (.var 5) (.nil))) (.nil)))))))) (.nil)))
def b_law_signs_text : Sxs := .cons (.set 2 (.str ⟨#[]⟩)) (.cons (.for_ (.one 3) (.rng (.cons (.call 4 (.cons (.var 0) (.cons (.int 9739) (.cons (.bin .add (.var 1) (.int 1)) (.nil))))) (.nil))) B_law_signs_text_1) (.cons (.ret (.var 2)) (.nil)))
def F_law_signs_text : Fd := ⟨"_law_signs_text", 2, ["cell", "most", "gathered", "j", "seed", "kind"], b_law_signs_text⟩
/-! 86: _law_said(way, thing) -/
def b_law_said_k09 : Sxs := .cons (.tryw (.cons (.ite (.cmp .eq (.var 0) (.int 0)) (.cons (.ret (.call 80 (.cons (.var 1) (.nil)))) (.nil)) (.nil)) (.cons (.ret (.ite (.cmp .eq (.var 0) (.int 1)) (.call 81 (.cons (.var 1) (.nil))) (.call 82 (.cons (.var 1) (.nil))))) (.nil))) 0 2) (.nil)
def F_law_said_k09 : Fd := ⟨"_law_said", 2, ["way", "thing", "e"], b_law_said_k09⟩
/-! 87: law(script) -/
def B_law_k09_1 : Sxs := .cons (.ite (.cmp .ne (.tup (.cons (.call 86 (.cons (.int 0) (.cons (.var 6) (.nil)))) (.cons (.call 86 (.cons (.int 1) (.cons (.var 6) (.nil)))) (.nil)))) (.tup (.cons (.str ⟨#[110, 111, 32, 99, 111, 100, 101]⟩) (.cons (.str ⟨#[110, 111, 32, 99, 111, 100, 101]⟩) (.nil))))) (.cons (.ret (.bl false)) (.nil)) (.nil)) (.nil)
def B_law_k09_2 : Sxs := .cons (.set 3 (.call 85 (.cons (.bin .add (.call 3 (.cons (.var 0) (.cons (.bin .mod (.var 2) (.int 9)) (.nil)))) (.bin .mul (.int 31) (.var 2))) (.cons (.int 24) (.nil))))) (.cons (.set 4 (.call 83 (.cons (.var 3) (.nil)))) (.cons (.set 5 (.call 69 (.cons (.var 4) (.cons (.var 1) (.nil))))) (.cons (.ite (.not (.call 20 (.cons (.tup (.cons (.call 86 (.cons (.int 0) (.cons (.var 3) (.nil)))) (.cons (.call 86 (.cons (.int 1) (.cons (.var 3) (.nil)))) (.nil)))) (.cons (.tup (.cons (.var 4) (.cons (.bin .add (.bin .mul (.int 11) (.bin .add (.bc .len (.cons (.var 4) (.nil))) (.int 2))) (.int 2)) (.nil)))) (.nil))))) (.cons (.ret (.bl false)) (.nil)) (.nil)) (.cons (.ite (.not (.call 20 (.cons (.tup (.cons (.call 86 (.cons (.int 2) (.cons (.var 5) (.nil)))) (.cons (.call 86 (.cons (.int 2) (.cons (.sls (.var 5) .no .no (-1)) (.nil)))) (.nil)))) (.cons (.tup (.cons (.var 3) (.cons (.var 3) (.nil)))) (.nil))))) (.cons (.ret (.bl false)) (.nil)) (.nil)) (.cons (.for_ (.one 6) (.it (.tup (.cons (.bin .add (.sl (.var 3) .no (.some (.int 5))) (.str ⟨#[35]⟩)) (.cons (.bin .add (.str ⟨#[64]⟩) (.sl (.var 3) .no (.some (.int 3)))) (.cons (.bin .mul (.str ⟨#[97]⟩) (.int 25)) (.cons (.bin .mul (.str ⟨#[48]⟩) (.int 26)) (.nil))))))) B_law_k09_1) (.nil))))))
def b_law_k09 : Sxs := .cons (.set 1 (.call 67 (.nil))) (.cons (.for_ (.one 2) (.rng (.cons (.int 16) (.nil))) B_law_k09_2) (.cons (.ite (.or (.cmp .ne (.call 80 (.cons (.str ⟨#[97, 66]⟩) (.nil))) (.tup (.cons (.int 104) (.cons (.int 0) (.cons (.int 101) (.cons (.int 1) (.nil))))))) (.or (.cmp .ne (.call 80 (.cons (.str ⟨#[49, 50, 51, 52]⟩) (.nil))) (.tup (.cons (.int 106) (.cons (.int 12) (.cons (.int 34) (.nil)))))) (.one (.cmp .ne (.call 80 (.cons (.str ⟨#[]⟩) (.nil))) (.tup (.cons (.int 104) (.nil))))))) (.cons (.ret (.bl false)) (.nil)) (.nil)) (.cons (.ret (.and (.cmp .eq (.call 80 (.cons (.str ⟨#[97, 49, 50, 51, 52, 53, 54]⟩) (.nil))) (.tup (.cons (.int 104) (.cons (.int 0) (.cons (.int 102) (.cons (.int 12) (.cons (.int 34) (.cons (.int 56) (.nil))))))))) (.one (.cmp .eq (.call 86 (.cons (.int 2) (.cons (.tup (.cons (.int 1) (.cons (.int 2) (.cons (.int 1) (.nil))))) (.nil)))) (.str ⟨#[110, 111, 32, 99, 111, 100, 101]⟩))))) (.nil))))
def F_law_k09 : Fd := ⟨"law", 1, ["script", "signs", "k", "text", "due", "row", "bad"], b_law_k09⟩
/-! 88: _law_other_case(text) -/
def B_law_other_case_1 : Sxs := .cons (.ite (.cmp .isin (.var 2) (.var 3)) (.cons (.set 2 (.sub (.var 4) (.mt .indexS (.var 3) (.cons (.var 2) (.nil))))) (.nil)) (.cons (.ite (.cmp .isin (.var 2) (.var 4)) (.cons (.set 2 (.sub (.var 3) (.mt .indexS (.var 4) (.cons (.var 2) (.nil))))) (.nil)) (.nil)) (.nil))) (.cons (.set 1 (.bin .add (.var 1) (.var 2))) (.nil))
def b_law_other_case : Sxs := .cons (.unp [3, 4] (.tup (.cons (.str ⟨#[97, 98, 99, 100, 101, 102, 103, 104, 105, 106, 107, 108, 109, 110, 111, 112, 113, 114, 115, 116, 117, 118, 119, 120, 121, 122]⟩) (.cons (.str ⟨#[65, 66, 67, 68, 69, 70, 71, 72, 73, 74, 75, 76, 77, 78, 79, 80, 81, 82, 83, 84, 85, 86, 87, 88, 89, 90]⟩) (.nil))))) (.cons (.set 1 (.str ⟨#[]⟩)) (.cons (.for_ (.one 2) (.it (.var 0)) B_law_other_case_1) (.cons (.ret (.var 1)) (.nil))))
def F_law_other_case : Fd := ⟨"_law_other_case", 1, ["text", "gathered", "sign", "small", "great"], b_law_other_case⟩
/-! 89: law(script) -/
def B_law_k10_1 : Sxs := .cons (.set 2 (.bin .add (.call 3 (.cons (.var 0) (.cons (.bin .mod (.var 1) (.int 9)) (.nil)))) (.bin .mul (.int 31) (.var 1)))) (.cons (.set 3 (.call 85 (.cons (.var 2) (.cons (.int 20) (.nil))))) (.cons (.set 4 (.call 80 (.cons (.var 3) (.nil)))) (.cons (.ite (.or (.cmp .ne (.call 63 (.cons (.var 4) (.nil))) (.var 3)) (.or (.cmp .ne (.call 82 (.cons (.call 64 (.cons (.var 4) (.nil))) (.nil))) (.var 3)) (.one (.cmp .ne (.call 82 (.cons (.call 16 (.cons (.call 64 (.cons (.var 4) (.nil))) (.nil))) (.nil))) (.var 3))))) (.cons (.ret (.bl false)) (.nil)) (.nil)) (.cons (.ite (.cmp .ne (.call 81 (.cons (.var 3) (.nil))) (.call 11 (.cons (.call 64 (.cons (.var 4) (.nil))) (.nil)))) (.cons (.ret (.bl false)) (.nil)) (.nil)) (.cons (.set 5 (.call 70 (.cons (.bin .add (.call 3 (.cons (.var 0) (.cons (.int 9) (.nil)))) (.bin .mul (.int 7) (.var 1))) (.nil)))) (.cons (.set 6 (.call 68 (.cons (.var 5) (.nil)))) (.cons (.ite (.and (.cmp .isnot (.var 6) (.non)) (.one (.cmp .le (.bc .len (.cons (.var 6) (.nil))) (.int 24)))) (.cons (.set 9 (.call 80 (.cons (.var 6) (.nil)))) (.cons (.ite (.or (.cmp .gt (.tup (.cons (.bc .len (.cons (.var 9) (.nil))) (.cons (.var 9) (.nil)))) (.tup (.cons (.bc .len (.cons (.var 5) (.nil))) (.cons (.var 5) (.nil))))) (.one (.cmp .ne (.call 63 (.cons (.var 9) (.nil))) (.var 6)))) (.cons (.ret (.bl false)) (.nil)) (.nil)) (.nil))) (.nil)) (.cons (.set 7 (.call 80 (.cons (.bin .add (.var 3) (.sub (.str ⟨#[97, 65, 55, 61]⟩) (.bin .mod (.var 1) (.int 4)))) (.nil)))) (.cons (.ite (.not (.chn .le .le (.bin .sub (.bc .len (.cons (.var 4) (.nil))) (.int 1)) (.bc .len (.cons (.var 7) (.nil))) (.bin .add (.bc .len (.cons (.var 4) (.nil))) (.int 2)))) (.cons (.ret (.bl false)) (.nil)) (.nil)) (.cons (.ite (.cmp .ne (.call 81 (.cons (.call 88 (.cons (.var 3) (.nil))) (.nil))) (.call 81 (.cons (.var 3) (.nil)))) (.cons (.ret (.bl false)) (.nil)) (.nil)) (.cons (.set 8 (.call 85 (.cons (.bin .add (.var 2) (.int 5)) (.cons (.int 4) (.nil))))) (.cons (.ite (.cmp .gt (.bc .len (.cons (.call 80 (.cons (.sl (.var 3) .no (.some (.int 10))) (.nil))) (.nil))) (.bin .add (.bc .len (.cons (.var 4) (.nil))) (.int 1))) (.cons (.ret (.bl false)) (.nil)) (.nil)) (.cons (.ite (.cmp .gt (.bc .len (.cons (.call 80 (.cons (.bin .add (.var 3) (.var 8)) (.nil))) (.nil))) (.bin .add (.bin .add (.bc .len (.cons (.var 4) (.nil))) (.bc .len (.cons (.call 80 (.cons (.var 8) (.nil))) (.nil)))) (.int 1))) (.cons (.ret (.bl false)) (.nil)) (.nil)) (.nil))))))))))))))
def b_law_k10 : Sxs := .cons (.for_ (.one 1) (.rng (.cons (.int 16) (.nil))) B_law_k10_1) (.cons (.ret (.cmp .eq (.call 81 (.cons (.str ⟨#[]⟩) (.nil))) (.int 35))) (.nil))
def F_law_k10 : Fd := ⟨"law", 1, ["script", "k", "cell", "text", "some", "numbers", "told_text", "more", "other", "fewest"], b_law_k10⟩
/-! 90: far(width, one, every, spots) -/
def b_far : Sxs := .cons (.ret (.bc .abs (.cons (.bin .sub (.bin .mul (.var 0) (.var 2)) (.bin .mul (.var 1) (.var 3))) (.nil)))) (.nil)
def F_far : Fd := ⟨"far", 4, ["width", "one", "every", "spots"], b_far⟩
/-! 91: snapped(measured, spots) -/
def B_snapped_1 : Sxs := .cons (.app 5 (.tup (.cons (.bin .sub (.call 90 (.cons (.bin .add (.sub (.pk 3) (.var 7)) (.int 1)) (.cons (.var 8) (.cons (.var 2) (.cons (.var 1) (.nil)))))) (.call 90 (.cons (.sub (.pk 3) (.var 7)) (.cons (.var 8) (.cons (.var 2) (.cons (.var 1) (.nil))))))) (.cons (.bin .sub (.int 0) (.var 7)) (.nil))))) (.nil)
def B_snapped_2 : Sxs := .cons (.own 5 (.lst (.nil))) (.cons (.for_ (.tup [7, 8]) (.enum (.var 0)) B_snapped_1) (.cons (.set 6 (.bin .sub (.int 0) (.sub (.bc .min (.cons (.pk 5) (.nil))) (.int 1)))) (.cons (.seti 3 (.var 6) (.bin .add (.sub (.pk 3) (.var 6)) (.int 1))) (.nil))))
def b_snapped : Sxs := .cons (.set 2 (.bc .sum (.cons (.var 0) (.nil)))) (.cons (.own 3 (.bin .mul (.lst (.cons (.int 1) (.nil))) (.bc .len (.cons (.var 0) (.nil))))) (.cons (.for_ (.one 4) (.rng (.cons (.bin .sub (.var 1) (.bc .len (.cons (.var 0) (.nil)))) (.nil))) B_snapped_2) (.cons (.ret (.bc .tuple (.cons (.pk 3) (.nil)))) (.nil))))
def F_snapped : Fd := ⟨"snapped", 2, ["measured", "spots", "every", "found", "turn", "costs", "place", "k", "one"], b_snapped⟩
/-! 92: is_near(row, measured, unit) -/
def b_is_near : Sxs := .cons (.ite (.cmp .ne (.bc .len (.cons (.var 0) (.nil))) (.bc .len (.cons (.var 1) (.nil)))) (.cons (.ret (.bl false)) (.nil)) (.nil)) (.cons (.ret (.bc .all (.cons (.lc (.tup [3, 4]) (.zip (.var 0) (.var 1)) .no (.cmp .le (.bin .mul (.bc .abs (.cons (.bin .sub (.var 4) (.bin .mul (.var 3) (.var 2))) (.nil))) (.int 8)) (.var 2))) (.nil)))) (.nil))
def F_is_near : Fd := ⟨"is_near", 3, ["row", "measured", "unit", "width", "one"], b_is_near⟩
/-! 93: _law_parts(many, spots) -/
def B_law_parts_1 : Sxs := .cons (.ext 2 (.lc (.one 4) (.it (.call 93 (.cons (.bin .sub (.var 0) (.int 1)) (.cons (.bin .sub (.var 1) (.var 3)) (.nil))))) .no (.bin .add (.tup (.cons (.var 3) (.nil))) (.var 4)))) (.nil)
def b_law_parts : Sxs := .cons (.ite (.cmp .eq (.var 0) (.int 1)) (.cons (.ret (.lst (.cons (.tup (.cons (.var 1) (.nil))) (.nil)))) (.nil)) (.nil)) (.cons (.own 2 (.lst (.nil))) (.cons (.for_ (.one 3) (.rng (.cons (.int 1) (.cons (.bin .add (.bin .sub (.var 1) (.var 0)) (.int 2)) (.nil)))) B_law_parts_1) (.cons (.frz 2) (.cons (.ret (.var 2)) (.nil)))))
def F_law_parts : Fd := ⟨"_law_parts", 2, ["many", "spots", "gathered", "first", "rest"], b_law_parts⟩
/-! 94: law(script) -/
def B_law_k11_1 : Sxs := .cons (.app 7 (.tup (.cons (.bc .sum (.cons (.lc (.tup [13, 15]) (.zip (.var 8) (.var 4)) .no (.bc .abs (.cons (.bin .sub (.bin .mul (.var 13) (.var 6)) (.bin .mul (.var 15) (.var 5))) (.nil)))) (.nil))) (.cons (.var 8) (.nil))))) (.nil)
def B_law_k11_2 : Sxs := .cons (.app 11 (.bc .max (.cons (.int 1) (.cons (.bin .sub (.bin .add (.bin .mul (.var 13) (.var 10)) (.call 4 (.cons (.bin .add (.var 2) (.bin .mul (.int 7) (.var 12))) (.cons (.int 9661) (.cons (.bin .add (.bin .fdiv (.var 10) (.int 3)) (.int 1)) (.nil)))))) (.bin .fdiv (.var 10) (.int 6))) (.nil))))) (.nil)
def B_law_k11_3 : Sxs := .cons (.set 14 (.cmp .eq (.bc .len (.cons (.var 8) (.nil))) (.bc .len (.cons (.var 9) (.nil))))) (.cons (.ite (.var 14) (.cons (.set 14 (.cmp .eq (.lc (.one 12) (.rng (.cons (.bc .len (.cons (.var 9) (.nil))) (.nil))) (.some (.cmp .gt (.bin .mul (.bc .abs (.cons (.bin .sub (.sub (.var 8) (.var 12)) (.bin .mul (.sub (.var 9) (.var 12)) (.var 10))) (.nil))) (.int 8)) (.var 10))) (.var 12)) (.lst (.nil)))) (.nil)) (.nil)) (.cons (.ite (.or (.cmp .notin (.call 92 (.cons (.var 9) (.cons (.var 8) (.cons (.var 10) (.nil))))) (.tup (.cons (.bl true) (.cons (.bl false) (.nil))))) (.one (.cmp .ne (.call 92 (.cons (.var 9) (.cons (.var 8) (.cons (.var 10) (.nil))))) (.var 14)))) (.cons (.ret (.bl false)) (.nil)) (.nil)) (.nil)))
def B_law_k11_4 : Sxs := .cons (.set 2 (.bin .add (.call 3 (.cons (.var 0) (.cons (.bin .mod (.var 1) (.int 9)) (.nil)))) (.bin .mul (.int 31) (.var 1)))) (.cons (.set 3 (.bin .add (.int 1) (.call 4 (.cons (.var 2) (.cons (.int 9697) (.cons (.int 4) (.nil))))))) (.cons (.set 4 (.bc .tuple (.cons (.lc (.one 12) (.rng (.cons (.var 3) (.nil))) .no (.bin .add (.int 1) (.call 4 (.cons (.bin .add (.var 2) (.bin .mul (.int 5) (.var 12))) (.cons (.int 9689) (.cons (.sub (.tup (.cons (.int 9) (.cons (.int 40) (.cons (.int 3) (.nil))))) (.bin .mod (.var 1) (.int 3))) (.nil))))))) (.nil)))) (.cons (.set 5 (.bin .add (.var 3) (.call 4 (.cons (.bin .add (.call 3 (.cons (.var 0) (.cons (.int 9) (.nil)))) (.var 1)) (.cons (.int 9679) (.cons (.int 8) (.nil))))))) (.cons (.set 6 (.bc .sum (.cons (.var 4) (.nil)))) (.cons (.own 7 (.lst (.nil))) (.cons (.for_ (.one 8) (.it (.call 93 (.cons (.var 3) (.cons (.var 5) (.nil))))) B_law_k11_1) (.cons (.ite (.not (.call 20 (.cons (.call 91 (.cons (.var 4) (.cons (.var 5) (.nil)))) (.cons (.sub (.bc .min (.cons (.pk 7) (.nil))) (.int 1)) (.nil))))) (.cons (.ret (.bl false)) (.nil)) (.nil)) (.cons (.set 9 (.call 5 (.cons (.bin .add (.var 2) (.int 3)) (.cons (.int 6) (.cons (.int 4) (.nil)))))) (.cons (.set 10 (.bin .add (.int 1) (.call 4 (.cons (.var 2) (.cons (.int 9677) (.cons (.int 40) (.nil))))))) (.cons (.own 11 (.lst (.nil))) (.cons (.for_ (.tup [12, 13]) (.enum (.var 9)) B_law_k11_2) (.cons (.set 11 (.bc .tuple (.cons (.pk 11) (.nil)))) (.cons (.for_ (.one 8) (.it (.tup (.cons (.var 11) (.cons (.sl (.var 11) .no (.some (.neg (.int 1)))) (.cons (.bc .tuple (.cons (.lc (.one 13) (.it (.var 9)) .no (.bin .mul (.var 13) (.var 10))) (.nil))) (.cons (.bin .add (.var 11) (.tup (.cons (.int 1) (.nil)))) (.nil))))))) B_law_k11_3) (.nil))))))))))))))
def b_law_k11 : Sxs := .cons (.for_ (.one 1) (.rng (.cons (.int 16) (.nil))) B_law_k11_4) (.cons (.ret (.and (.cmp .eq (.call 91 (.cons (.tup (.cons (.int 10) (.cons (.int 21) (.cons (.int 9) (.nil))))) (.cons (.int 4) (.nil)))) (.tup (.cons (.int 1) (.cons (.int 2) (.cons (.int 1) (.nil)))))) (.one (.cmp .eq (.call 91 (.cons (.tup (.cons (.int 1) (.cons (.int 1) (.nil)))) (.cons (.int 3) (.nil)))) (.tup (.cons (.int 1) (.cons (.int 2) (.nil)))))))) (.nil))
def F_law_k11 : Fd := ⟨"law", 1, ["script", "k", "cell", "many", "measured", "spots", "every", "ranked", "some", "row", "unit", "rough", "j", "width", "due", "one"], b_law_k11⟩
/-! 95: told_by(read, row) -/
def b_told_by : Sxs := .cons (.tryo (.cons (.ret (.callv 0 [82, 52, 42] (.cons (.var 1) (.nil)))) (.nil)) 2 (.cons (.ret (.non)) (.nil))) (.nil)
def F_told_by : Fd := ⟨"told_by", 2, ["read", "row"], b_told_by⟩
/-! 96: fitted(measured) -/
def B_fitted_1 : Sxs := .cons (.app 1 (.tup (.cons (.str ⟨#[112, 97, 105, 114]⟩) (.cons (.call 95 (.cons (.fn 52) (.cons (.call 91 (.cons (.var 0) (.cons (.bin .add (.bin .add (.bin .add (.int 4) (.bin .mul (.var 5) (.bin .add (.int 3) (.bin .mul (.int 2) (.var 6))))) (.var 6)) (.int 2)) (.nil)))) (.nil)))) (.nil))))) (.nil)
def B_fitted_2 : Sxs := .cons (.ite (.and (.cmp .isnot (.sub (.var 4) (.int 1)) (.non)) (.one (.cmp .notin (.var 4) (.pk 3)))) (.cons (.app 3 (.var 4)) (.nil)) (.nil)) (.nil)
def b_fitted : Sxs := .cons (.own 1 (.lst (.nil))) (.cons (.set 2 (.bc .len (.cons (.var 0) (.nil)))) (.cons (.ite (.cmp .eq (.var 2) (.con 8)) (.cons (.app 1 (.tup (.cons (.str ⟨#[116, 104, 105, 114, 116, 101, 101, 110]⟩) (.cons (.call 95 (.cons (.fn 42) (.cons (.call 91 (.cons (.var 0) (.cons (.con 24) (.nil)))) (.nil)))) (.nil))))) (.nil)) (.nil)) (.cons (.ite (.and (.cmp .eq (.bin .mod (.var 2) (.int 10)) (.int 7)) (.one (.cmp .gt (.var 2) (.int 7)))) (.cons (.set 5 (.bin .fdiv (.bin .sub (.var 2) (.int 7)) (.int 5))) (.cons (.for_ (.one 6) (.it (.con 12)) B_fitted_1) (.nil))) (.nil)) (.cons (.ite (.and (.cmp .eq (.bin .mod (.var 2) (.int 6)) (.int 1)) (.one (.cmp .gt (.var 2) (.int 6)))) (.cons (.app 1 (.tup (.cons (.str ⟨#[101, 108, 101, 118, 101, 110]⟩) (.cons (.call 95 (.cons (.fn 82) (.cons (.call 91 (.cons (.var 0) (.cons (.bin .add (.bin .mul (.bin .fdiv (.var 2) (.int 6)) (.int 11)) (.int 2)) (.nil)))) (.nil)))) (.nil))))) (.nil)) (.nil)) (.cons (.own 3 (.lst (.nil))) (.cons (.frz 1) (.cons (.for_ (.one 4) (.it (.var 1)) B_fitted_2) (.cons (.ret (.bc .tuple (.cons (.pk 3) (.nil)))) (.nil)))))))))
def F_fitted : Fd := ⟨"fitted", 1, ["measured", "found", "many", "some", "one", "figures", "wide"], b_fitted⟩
/-! 97: _law_read(kind, row) -/
def b_law_read_k12 : Sxs := .cons (.tryo (.cons (.ite (.cmp .eq (.var 0) (.str ⟨#[116, 104, 105, 114, 116, 101, 101, 110]⟩)) (.cons (.ret (.call 42 (.cons (.var 1) (.nil)))) (.nil)) (.nil)) (.cons (.ret (.ite (.cmp .eq (.var 0) (.str ⟨#[112, 97, 105, 114]⟩)) (.call 52 (.cons (.var 1) (.nil))) (.call 82 (.cons (.var 1) (.nil))))) (.nil))) 0 (.cons (.ret (.non)) (.nil))) (.nil)
def F_law_read_k12 : Fd := ⟨"_law_read", 2, ["kind", "row"], b_law_read_k12⟩
/-! 98: _law_due(measured) -/
def B_law_due_1 : Sxs := .cons (.set 6 (.call 97 (.cons (.var 4) (.cons (.call 91 (.cons (.var 0) (.cons (.var 5) (.nil)))) (.nil))))) (.cons (.ite (.and (.cmp .isnot (.var 6) (.non)) (.one (.cmp .notin (.tup (.cons (.var 4) (.cons (.var 6) (.nil)))) (.pk 3)))) (.cons (.app 3 (.tup (.cons (.var 4) (.cons (.var 6) (.nil))))) (.nil)) (.nil)) (.nil))
def b_law_due : Sxs := .cons (.par [(2, false), (3, true)] (.cons (.bc .len (.cons (.var 0) (.nil))) (.cons (.lst (.nil)) (.nil)))) (.cons (.own 1 (.lst (.nil))) (.cons (.ite (.cmp .eq (.var 2) (.int 59)) (.cons (.app 1 (.tup (.cons (.str ⟨#[116, 104, 105, 114, 116, 101, 101, 110]⟩) (.cons (.int 95) (.nil))))) (.nil)) (.nil)) (.cons (.ite (.and (.cmp .gt (.var 2) (.int 7)) (.one (.cmp .eq (.bin .mod (.var 2) (.int 10)) (.int 7)))) (.cons (.own 1 (.bin .add (.pk 1) (.lst (.cons (.tup (.cons (.str ⟨#[112, 97, 105, 114]⟩) (.cons (.bin .add (.int 8) (.bin .mul (.int 7) (.bin .fdiv (.bin .sub (.var 2) (.int 7)) (.int 5)))) (.nil)))) (.cons (.tup (.cons (.str ⟨#[112, 97, 105, 114]⟩) (.cons (.bin .add (.int 9) (.bin .mul (.int 9) (.bin .fdiv (.bin .sub (.var 2) (.int 7)) (.int 5)))) (.nil)))) (.nil)))))) (.nil)) (.nil)) (.cons (.ite (.and (.cmp .gt (.var 2) (.int 6)) (.one (.cmp .eq (.bin .mod (.var 2) (.int 6)) (.int 1)))) (.cons (.app 1 (.tup (.cons (.str ⟨#[101, 108, 101, 118, 101, 110]⟩) (.cons (.bin .add (.bin .mul (.int 11) (.bin .fdiv (.var 2) (.int 6))) (.int 2)) (.nil))))) (.nil)) (.nil)) (.cons (.frz 1) (.cons (.for_ (.tup [4, 5]) (.it (.var 1)) B_law_due_1) (.cons (.ret (.bc .tuple (.cons (.pk 3) (.nil)))) (.nil))))))))
def F_law_due : Fd := ⟨"_law_due", 1, ["measured", "some", "many", "due", "kind", "spots", "text"], b_law_due⟩
/-! 99: law(script) -/
def B_law_k12_1 : Sxs := .cons (.app 7 (.bin .sub (.bin .add (.bin .mul (.var 16) (.var 3)) (.call 4 (.cons (.bin .add (.var 2) (.bin .mul (.int 7) (.var 15))) (.cons (.int 9643) (.cons (.bin .add (.bin .mul (.int 2) (.var 6)) (.int 1)) (.nil)))))) (.var 6))) (.nil)
def B_law_k12_2 : Sxs := .cons (.ite (.cmp .ne (.call 96 (.cons (.var 10) (.nil))) (.call 98 (.cons (.var 10) (.nil)))) (.cons (.ret (.bl false)) (.nil)) (.nil)) (.nil)
def B_law_k12_3 : Sxs := .cons (.set 2 (.bin .add (.call 3 (.cons (.var 0) (.cons (.bin .mod (.var 1) (.int 9)) (.nil)))) (.bin .mul (.int 31) (.var 1)))) (.cons (.set 3 (.bin .mul (.int 8) (.bin .add (.int 1) (.call 4 (.cons (.bin .add (.call 3 (.cons (.var 0) (.cons (.int 9) (.nil)))) (.var 1)) (.cons (.int 9649) (.cons (.int 20) (.nil)))))))) (.cons (.par [(11, false), (12, false)] (.cons (.call 32 (.cons (.var 2) (.cons (.int 12) (.nil)))) (.cons (.call 85 (.cons (.var 2) (.cons (.int 6) (.nil)))) (.nil)))) (.cons (.set 4 (.call 32 (.cons (.bin .add (.var 2) (.int 1)) (.cons (.bin .add (.int 2) (.bin .mul (.int 2) (.bin .mod (.var 1) (.int 4)))) (.nil))))) (.cons (.set 5 (.lst (.cons (.tup (.cons (.str ⟨#[116, 104, 105, 114, 116, 101, 101, 110]⟩) (.cons (.call 38 (.cons (.var 11) (.nil))) (.nil)))) (.cons (.tup (.cons (.str ⟨#[112, 97, 105, 114]⟩) (.cons (.call 49 (.cons (.var 4) (.cons (.bin .add (.int 2) (.bin .mod (.var 1) (.int 2))) (.nil)))) (.nil)))) (.nil))))) (.cons (.set 5 (.bin .add (.var 5) (.lst (.cons (.tup (.cons (.str ⟨#[101, 108, 101, 118, 101, 110]⟩) (.cons (.call 64 (.cons (.call 80 (.cons (.var 12) (.nil))) (.nil))) (.nil)))) (.nil))))) (.cons (.unp [13, 14] (.sub (.var 5) (.bin .mod (.var 1) (.int 3)))) (.cons (.set 6 (.bin .fdiv (.var 3) (.int 8))) (.cons (.own 7 (.lst (.nil))) (.cons (.for_ (.tup [15, 16]) (.enum (.var 14)) B_law_k12_1) (.cons (.set 7 (.bc .tuple (.cons (.pk 7) (.nil)))) (.cons (.ite (.or (.cmp .isnot (.call 92 (.cons (.var 14) (.cons (.var 7) (.cons (.var 3) (.nil))))) (.bl true)) (.one (.cmp .ne (.call 91 (.cons (.var 7) (.cons (.bc .sum (.cons (.var 14) (.nil))) (.nil)))) (.var 14)))) (.cons (.ret (.bl false)) (.nil)) (.nil)) (.cons (.set 8 (.tup (.cons (.var 13) (.cons (.call 97 (.cons (.var 13) (.cons (.var 14) (.nil)))) (.nil))))) (.cons (.ite (.or (.cmp .notin (.var 8) (.call 96 (.cons (.var 7) (.nil)))) (.one (.cmp .notin (.var 8) (.call 96 (.cons (.sls (.var 7) .no .no (-1)) (.nil)))))) (.cons (.ret (.bl false)) (.nil)) (.nil)) (.cons (.ite (.cmp .ne (.call 96 (.cons (.var 7) (.nil))) (.call 98 (.cons (.var 7) (.nil)))) (.cons (.ret (.bl false)) (.nil)) (.nil)) (.cons (.set 9 (.bc .tuple (.cons (.lc (.tup [15, 17]) (.enum (.var 7)) .no (.bc .max (.cons (.int 1) (.cons (.bin .sub (.bin .add (.var 17) (.call 4 (.cons (.bin .add (.var 2) (.bin .mul (.int 3) (.var 15))) (.cons (.int 9631) (.cons (.var 3) (.nil)))))) (.bin .fdiv (.var 3) (.int 2))) (.nil))))) (.nil)))) (.cons (.for_ (.one 10) (.it (.tup (.cons (.var 9) (.cons (.sl (.var 7) .no (.some (.neg (.int 2)))) (.cons (.bin .mul (.tup (.cons (.int 5) (.nil))) (.bin .add (.int 1) (.bin .mul (.int 2) (.var 1)))) (.nil)))))) B_law_k12_2) (.nil)))))))))))))))))
def b_law_k12 : Sxs := .cons (.for_ (.one 1) (.rng (.cons (.int 12) (.nil))) B_law_k12_3) (.cons (.ret (.cmp .eq (.call 96 (.cons (.tup (.cons (.int 1) (.cons (.int 1) (.cons (.int 1) (.nil))))) (.nil))) (.tup (.nil)))) (.nil))
def F_law_k12 : Fd := ⟨"law", 1, ["script", "k", "cell", "unit", "pair", "rows", "eighth", "measured", "wanted", "rough", "some", "figures", "text", "kind", "row", "j", "width", "one"], b_law_k12⟩
/-! 100: near_rows(row) -/
def B_near_rows_1 : Sxs := .cons (.set 4 (.ite (.cmp .eq (.sub (.var 1) (.var 3)) (.str ⟨#[46]⟩)) (.str ⟨#[35]⟩) (.str ⟨#[46]⟩))) (.cons (.app 2 (.call 14 (.cons (.bin .add (.bin .add (.sl (.var 1) .no (.some (.var 3))) (.var 4)) (.sl (.var 1) (.some (.bin .add (.var 3) (.int 1))) .no)) (.nil)))) (.nil))
def b_near_rows : Sxs := .cons (.set 1 (.call 12 (.cons (.var 0) (.nil)))) (.cons (.own 2 (.lst (.nil))) (.cons (.for_ (.one 3) (.rng (.cons (.int 1) (.cons (.bin .sub (.bc .len (.cons (.var 1) (.nil))) (.int 1)) (.nil)))) B_near_rows_1) (.cons (.ret (.bc .tuple (.cons (.bc .sorted (.cons (.pk 2) (.nil))) (.nil)))) (.nil))))
def F_near_rows : Fd := ⟨"near_rows", 1, ["row", "spots", "found", "k", "other"], b_near_rows⟩
/-! 101: apart(one, other) -/
def b_apart : Sxs := .cons (.ite (.cmp .ne (.call 11 (.cons (.var 0) (.nil))) (.call 11 (.cons (.var 1) (.nil)))) (.cons (.ret (.non)) (.nil)) (.nil)) (.cons (.ret (.bc .len (.cons (.lc (.tup [2, 3]) (.enum (.call 12 (.cons (.var 0) (.nil)))) (.some (.cmp .ne (.var 3) (.sub (.call 12 (.cons (.var 1) (.nil))) (.var 2)))) (.var 2)) (.nil)))) (.nil))
def F_apart : Fd := ⟨"apart", 2, ["one", "other", "k", "sign"], b_apart⟩
/-! 102: least_apart() -/
def B_least_apart_1 : Sxs := .cons (.set 1 (.bc .min (.cons (.var 1) (.cons (.bc .len (.cons (.lc (.tup [6, 7]) (.enum (.var 3)) (.some (.cmp .ne (.var 7) (.sub (.var 4) (.var 6)))) (.var 6)) (.nil))) (.nil))))) (.nil)
def B_least_apart_2 : Sxs := .cons (.for_ (.one 4) (.it (.sl (.var 0) .no (.some (.var 2)))) B_least_apart_1) (.nil)
def b_least_apart : Sxs := .cons (.set 0 (.lc (.one 5) (.rng (.cons (.bc .len (.cons (.con 22) (.nil))) (.nil))) .no (.call 12 (.cons (.call 58 (.cons (.var 5) (.nil))) (.nil))))) (.cons (.set 1 (.int 11)) (.cons (.for_ (.tup [2, 3]) (.enum (.var 0)) B_least_apart_2) (.cons (.ret (.var 1)) (.nil))))
def F_least_apart : Fd := ⟨"least_apart", 0, ["spots", "found", "k", "one", "other", "number", "place", "sign"], b_least_apart⟩
/-! 103: law(script) -/
def B_law_k13_1 : Sxs := .cons (.app 7 (.call 21 (.cons (.bin .add (.bin .add (.sl (.var 6) .no (.some (.var 8))) (.ite (.cmp .eq (.sub (.var 6) (.var 8)) (.str ⟨#[35]⟩)) (.str ⟨#[46]⟩) (.str ⟨#[35]⟩))) (.sl (.var 6) (.some (.bin .add (.var 8) (.int 1))) .no)) (.nil)))) (.nil)
def B_law_k13_2 : Sxs := .cons (.set 12 (.call 6 (.cons (.var 10) (.nil)))) (.cons (.set 13 (.non)) (.cons (.ite (.cmp .eq (.bc .len (.cons (.var 12) (.nil))) (.bc .len (.cons (.var 6) (.nil)))) (.cons (.set 13 (.bc .len (.cons (.lc (.one 8) (.rng (.cons (.bc .len (.cons (.var 12) (.nil))) (.nil))) (.some (.cmp .ne (.sub (.var 12) (.var 8)) (.sub (.var 6) (.var 8)))) (.var 8)) (.nil)))) (.nil)) (.nil)) (.cons (.ite (.not (.call 20 (.cons (.call 101 (.cons (.var 5) (.cons (.var 10) (.nil)))) (.cons (.var 13) (.nil))))) (.cons (.ret (.bl false)) (.nil)) (.nil)) (.nil))))
def B_law_k13_3 : Sxs := .cons (.set 4 (.bin .add (.call 3 (.cons (.var 0) (.cons (.bin .mod (.var 1) (.int 9)) (.nil)))) (.bin .mul (.int 31) (.var 1)))) (.cons (.set 5 (.call 5 (.cons (.var 4) (.cons (.int 6) (.cons (.int 4) (.nil)))))) (.cons (.set 6 (.call 6 (.cons (.var 5) (.nil)))) (.cons (.own 7 (.lst (.nil))) (.cons (.for_ (.one 8) (.rng (.cons (.int 1) (.cons (.bin .sub (.bc .len (.cons (.var 6) (.nil))) (.int 1)) (.nil)))) B_law_k13_1) (.cons (.ite (.not (.call 20 (.cons (.call 100 (.cons (.var 5) (.nil))) (.cons (.bc .tuple (.cons (.bc .sorted (.cons (.pk 7) (.nil))) (.nil))) (.nil))))) (.cons (.ret (.bl false)) (.nil)) (.nil)) (.cons (.set 9 (.call 5 (.cons (.bin .add (.call 3 (.cons (.var 0) (.cons (.int 9) (.nil)))) (.bin .mul (.int 7) (.var 1))) (.cons (.int 6) (.cons (.int 4) (.nil)))))) (.cons (.for_ (.one 10) (.it (.bin .add (.sl (.pk 7) .no (.some (.int 3))) (.lst (.cons (.var 9) (.cons (.var 5) (.cons (.sls (.var 5) .no .no (-1)) (.nil))))))) B_law_k13_2) (.nil))))))))
def B_law_k13_4 : Sxs := .cons (.set 3 (.bc .min (.cons (.var 3) (.cons (.bc .sum (.cons (.lc (.tup [12, 15]) (.zip (.var 10) (.var 9)) .no (.bc .int (.cons (.cmp .ne (.var 12) (.var 15)) (.nil)))) (.nil))) (.nil))))) (.nil)
def B_law_k13_5 : Sxs := .cons (.for_ (.one 9) (.it (.sl (.var 2) .no (.some (.var 11)))) B_law_k13_4) (.nil)
def b_law_k13 : Sxs := .cons (.for_ (.one 1) (.rng (.cons (.int 16) (.nil))) B_law_k13_3) (.cons (.set 2 (.lc (.one 14) (.it (.call 67 (.nil))) .no (.call 6 (.cons (.var 14) (.nil))))) (.cons (.set 3 (.int 11)) (.cons (.for_ (.tup [11, 10]) (.enum (.var 2)) B_law_k13_5) (.cons (.ret (.and (.cmp .eq (.call 102 (.nil)) (.var 3)) (.and (.cmp .eq (.call 100 (.cons (.tup (.cons (.int 1) (.nil))) (.nil))) (.tup (.nil))) (.one (.cmp .eq (.call 100 (.cons (.tup (.cons (.int 3) (.nil))) (.nil))) (.tup (.cons (.tup (.cons (.int 1) (.cons (.int 1) (.cons (.int 1) (.nil))))) (.nil)))))))) (.nil)))))
def F_law_k13 : Fd := ⟨"law", 1, ["script", "k", "every", "least", "cell", "row", "spots", "due", "place", "other", "one", "j", "mine", "far_off", "sign", "yours"], b_law_k13⟩
/-! 105: _law_said(kind, row) -/
def b_law_said_k14 : Sxs := .cons (.tryw (.cons (.ret (.call 104 (.cons (.var 0) (.cons (.var 1) (.nil))))) (.nil)) 0 2) (.nil)
def F_law_said_k14 : Fd := ⟨"_law_said", 2, ["kind", "row", "e"], b_law_said_k14⟩
/-! 107: _law_spoiled(row, place) -/
def b_law_spoiled : Sxs := .cons (.set 2 (.call 6 (.cons (.var 0) (.nil)))) (.cons (.ret (.call 21 (.cons (.bin .add (.bin .add (.sl (.var 2) .no (.some (.var 1))) (.ite (.cmp .eq (.sub (.var 2) (.var 1)) (.str ⟨#[35]⟩)) (.str ⟨#[46]⟩) (.str ⟨#[35]⟩))) (.sl (.var 2) (.some (.bin .add (.var 1) (.int 1))) .no)) (.nil)))) (.nil))
def F_law_spoiled : Fd := ⟨"_law_spoiled", 2, ["row", "place", "spots"], b_law_spoiled⟩
/-! 108: law(script) -/
def B_law_k14_1 : Sxs := .cons (.ite (.cmp .ne (.call 105 (.cons (.var 11) (.cons (.var 8) (.nil)))) (.call 106 (.cons (.var 11) (.cons (.var 8) (.nil))))) (.cons (.ret (.bl false)) (.nil)) (.nil)) (.nil)
def B_law_k14_2 : Sxs := .cons (.set 2 (.bin .add (.call 3 (.cons (.var 0) (.cons (.var 1) (.nil)))) (.bin .mul (.int 31) (.var 1)))) (.cons (.par [(9, false), (10, false)] (.cons (.call 32 (.cons (.var 2) (.cons (.int 12) (.nil)))) (.cons (.bin .add (.call 85 (.cons (.var 2) (.cons (.int 2) (.nil)))) (.str ⟨#[97]⟩)) (.nil)))) (.cons (.set 3 (.call 32 (.cons (.bin .add (.var 2) (.int 1)) (.cons (.bin .add (.int 2) (.bin .mul (.int 2) (.bin .mod (.var 1) (.int 2)))) (.nil))))) (.cons (.set 4 (.lst (.cons (.tup (.cons (.str ⟨#[116, 104, 105, 114, 116, 101, 101, 110]⟩) (.cons (.call 38 (.cons (.var 9) (.nil))) (.nil)))) (.cons (.tup (.cons (.str ⟨#[112, 97, 105, 114]⟩) (.cons (.call 49 (.cons (.var 3) (.cons (.bin .add (.int 2) (.bin .mod (.var 1) (.int 2))) (.nil)))) (.nil)))) (.nil))))) (.cons (.set 4 (.bin .add (.var 4) (.lst (.cons (.tup (.cons (.str ⟨#[101, 108, 101, 118, 101, 110]⟩) (.cons (.call 64 (.cons (.call 80 (.cons (.var 10) (.nil))) (.nil))) (.nil)))) (.nil))))) (.cons (.unp [11, 12] (.sub (.var 4) (.bin .mod (.var 1) (.int 3)))) (.cons (.set 5 (.bin .add (.int 1) (.call 4 (.cons (.bin .add (.call 3 (.cons (.var 0) (.cons (.int 9) (.nil)))) (.var 1)) (.cons (.int 9629) (.cons (.bin .sub (.bc .sum (.cons (.var 12) (.nil))) (.int 2)) (.nil))))))) (.cons (.set 6 (.bin .add (.int 1) (.call 4 (.cons (.var 2) (.cons (.int 9623) (.cons (.bin .sub (.bc .sum (.cons (.var 12) (.nil))) (.int 2)) (.nil))))))) (.cons (.set 7 (.call 107 (.cons (.var 12) (.cons (.var 5) (.nil))))) (.cons (.for_ (.one 8) (.it (.tup (.cons (.var 12) (.cons (.var 7) (.cons (.call 107 (.cons (.var 7) (.cons (.var 6) (.nil)))) (.nil)))))) B_law_k14_1) (.cons (.ite (.or (.cmp .ne (.call 105 (.cons (.var 11) (.cons (.sls (.var 12) .no .no (-1)) (.nil)))) (.call 106 (.cons (.var 11) (.cons (.sls (.var 12) .no .no (-1)) (.nil))))) (.one (.cmp .isin (.call 105 (.cons (.var 11) (.cons (.var 7) (.nil)))) (.tup (.cons (.str ⟨#[110, 111, 32, 99, 111, 100, 101]⟩) (.cons (.str ⟨#[119, 114, 111, 110, 103]⟩) (.nil))))))) (.cons (.ret (.bl false)) (.nil)) (.nil)) (.cons (.ite (.or (.cmp .ne (.call 105 (.cons (.str ⟨#[111, 116, 104, 101, 114]⟩) (.cons (.var 12) (.nil)))) (.str ⟨#[110, 111, 32, 99, 111, 100, 101]⟩)) (.one (.cmp .ne (.call 105 (.cons (.str ⟨#[101, 108, 101, 118, 101, 110]⟩) (.cons (.tup (.cons (.int 3) (.cons (.int 1) (.cons (.int 3) (.nil))))) (.nil)))) (.str ⟨#[110, 111, 32, 99, 111, 100, 101]⟩)))) (.cons (.ret (.bl false)) (.nil)) (.nil)) (.nil))))))))))))
def b_law_k14 : Sxs := .cons (.for_ (.one 1) (.rng (.cons (.int 9) (.nil))) B_law_k14_2) (.cons (.ret (.bl true)) (.nil))
def F_law_k14 : Fd := ⟨"law", 1, ["script", "k", "cell", "pair", "rows", "place", "other", "near", "some", "figures", "text", "kind", "row"], b_law_k14⟩
/-! 109: straight(kind, row) -/
def b_straight : Sxs := .cons (.ite (.cmp .eq (.var 0) (.str ⟨#[116, 104, 105, 114, 116, 101, 101, 110]⟩)) (.cons (.ret (.call 41 (.cons (.var 1) (.nil)))) (.nil)) (.nil)) (.cons (.ite (.cmp .eq (.var 0) (.str ⟨#[112, 97, 105, 114]⟩)) (.cons (.set 3 (.lc (.one 4) (.it (.con 12)) .no (.call 51 (.cons (.var 1) (.cons (.var 4) (.nil)))))) (.cons (.ret (.ite (.cmp .isnot (.sub (.var 3) (.int 0)) (.non)) (.sub (.var 3) (.int 0)) (.sub (.var 3) (.int 1)))) (.nil))) (.nil)) (.cons (.set 2 (.call 65 (.cons (.var 1) (.nil)))) (.cons (.ite (.cmp .is (.var 2) (.non)) (.cons (.ret (.non)) (.nil)) (.nil)) (.cons (.ret (.call 63 (.cons (.var 2) (.nil)))) (.nil)))))
def F_straight : Fd := ⟨"straight", 2, ["kind", "row", "numbers", "some", "wide"], b_straight⟩
/-! 110: told_in(kind, row) -/
def B_told_in_1 : Sxs := .cons (.set 4 (.call 109 (.cons (.var 0) (.cons (.var 3) (.nil))))) (.cons (.ite (.cmp .isnot (.var 4) (.non)) (.cons (.ret (.tup (.cons (.var 4) (.cons (.var 2) (.nil))))) (.nil)) (.nil)) (.nil))
def b_told_in : Sxs := .cons (.for_ (.tup [2, 3]) (.it (.tup (.cons (.tup (.cons (.bl false) (.cons (.var 1) (.nil)))) (.cons (.tup (.cons (.bl true) (.cons (.call 16 (.cons (.var 1) (.nil))) (.nil)))) (.nil))))) B_told_in_1) (.cons (.ret (.non)) (.nil))
def F_told_in : Fd := ⟨"told_in", 2, ["kind", "row", "is_turned", "some", "text"], b_told_in⟩
/-! 111: stretches(picture) -/
def B_stretches_1 : Sxs := .cons (.ite (.and (.cmp .eq (.sub (.var 0) (.var 3)) (.str ⟨#[46]⟩)) (.one (.or (.cmp .ge (.var 2) (.con 26)) (.or (.cmp .eq (.bin .add (.var 3) (.var 2)) (.bc .len (.cons (.var 0) (.nil)))) (.one (.cmp .eq (.var 3) (.int 0))))))) (.cons (.ite (.cmp .isnot (.var 4) (.non)) (.cons (.app 1 (.tup (.cons (.var 4) (.cons (.var 3) (.cons (.var 5) (.cons (.ite (.cmp .eq (.bin .add (.var 3) (.var 2)) (.bc .len (.cons (.var 0) (.nil)))) (.non) (.var 2)) (.nil))))))) (.nil)) (.nil)) (.cons (.par [(4, false), (5, false)] (.cons (.non) (.cons (.ite (.cmp .eq (.var 3) (.int 0)) (.non) (.var 2)) (.nil)))) (.nil))) (.cons (.ite (.cmp .is (.var 4) (.non)) (.cons (.set 4 (.var 3)) (.nil)) (.nil)) (.nil))) (.cons (.set 3 (.bin .add (.var 3) (.var 2))) (.nil))
def b_stretches : Sxs := .cons (.own 1 (.lst (.nil))) (.cons (.unp [3, 4, 5] (.tup (.cons (.int 0) (.cons (.non) (.cons (.non) (.nil)))))) (.cons (.for_ (.one 2) (.it (.call 14 (.cons (.var 0) (.nil)))) B_stretches_1) (.cons (.ite (.cmp .isnot (.var 4) (.non)) (.cons (.app 1 (.tup (.cons (.var 4) (.cons (.var 3) (.cons (.var 5) (.cons (.non) (.nil))))))) (.nil)) (.nil)) (.cons (.frz 1) (.cons (.ret (.var 1)) (.nil))))))
def F_stretches : Fd := ⟨"stretches", 1, ["picture", "found", "width", "place", "begin", "rim"], b_stretches⟩
/-! 112: found(picture) -/
def B_found_1 : Sxs := .cons (.set 9 (.call 110 (.cons (.var 7) (.cons (.var 6) (.nil))))) (.cons (.ite (.and (.cmp .isnot (.var 9) (.non)) (.one (.bc .all (.cons (.lc (.one 10) (.it (.tup (.cons (.var 4) (.cons (.var 5) (.nil))))) .no (.or (.cmp .is (.var 10) (.non)) (.one (.cmp .ge (.var 10) (.var 8))))) (.nil))))) (.cons (.app 1 (.bin .add (.tup (.cons (.var 2) (.cons (.var 7) (.nil)))) (.var 9))) (.nil)) (.nil)) (.nil))
def B_found_2 : Sxs := .cons (.set 6 (.call 14 (.cons (.sl (.var 0) (.some (.var 2)) (.some (.var 3))) (.nil)))) (.cons (.for_ (.tup [7, 8]) (.it (.con 25)) B_found_1) (.nil))
def b_found : Sxs := .cons (.own 1 (.lst (.nil))) (.cons (.for_ (.tup [2, 3, 4, 5]) (.it (.call 111 (.cons (.var 0) (.nil)))) B_found_2) (.cons (.ret (.bc .tuple (.cons (.pk 1) (.nil)))) (.nil)))
def F_found : Fd := ⟨"found", 1, ["picture", "some", "begin", "end", "left", "right", "row", "kind", "rim", "text", "side"], b_found⟩
/-! 113: _law_read(kind, row) -/
def b_law_read_k15 : Sxs := .cons (.tryo (.cons (.ite (.cmp .eq (.var 0) (.str ⟨#[116, 104, 105, 114, 116, 101, 101, 110]⟩)) (.cons (.set 3 (.call 42 (.cons (.var 1) (.nil)))) (.cons (.ret (.ite (.cmp .eq (.call 38 (.cons (.var 3) (.nil))) (.var 1)) (.var 3) (.non))) (.nil))) (.nil)) (.cons (.ite (.cmp .eq (.var 0) (.str ⟨#[112, 97, 105, 114]⟩)) (.cons (.set 3 (.call 52 (.cons (.var 1) (.nil)))) (.cons (.ret (.ite (.cmp .isin (.var 1) (.tup (.cons (.call 49 (.cons (.var 3) (.cons (.int 2) (.nil)))) (.cons (.call 49 (.cons (.var 3) (.cons (.int 3) (.nil)))) (.nil))))) (.var 3) (.non))) (.nil))) (.nil)) (.cons (.set 2 (.call 66 (.cons (.var 1) (.nil)))) (.cons (.ret (.ite (.cmp .eq (.call 64 (.cons (.var 2) (.nil))) (.var 1)) (.call 63 (.cons (.var 2) (.nil))) (.non))) (.nil))))) 0 (.cons (.ret (.non)) (.nil))) (.nil)
def F_law_read_k15 : Fd := ⟨"_law_read", 2, ["kind", "row", "numbers", "text"], b_law_read_k15⟩
/-! 114: _law_scan(picture) -/
def B_law_scan_1 : Sxs := .cons (.ite (.and (.or (.cmp .ge (.var 7) (.var 12)) (.one (.cmp .eq (.var 7) (.var 3)))) (.one (.or (.cmp .ge (.var 8) (.var 12)) (.one (.cmp .eq (.bin .add (.var 6) (.var 8)) (.bc .len (.cons (.var 0) (.nil)))))))) (.cons (.par [(15, false), (16, false)] (.cons (.call 113 (.cons (.var 11) (.cons (.var 9) (.nil)))) (.cons (.call 113 (.cons (.var 11) (.cons (.sls (.var 9) .no .no (-1)) (.nil)))) (.nil)))) (.cons (.ite (.cmp .isnot (.var 15) (.non)) (.cons (.app 4 (.tup (.cons (.var 3) (.cons (.var 11) (.cons (.var 15) (.cons (.bl false) (.nil))))))) (.nil)) (.cons (.ite (.cmp .isnot (.var 16) (.non)) (.cons (.app 4 (.tup (.cons (.var 3) (.cons (.var 11) (.cons (.var 16) (.cons (.bl true) (.nil))))))) (.nil)) (.nil)) (.nil))) (.nil))) (.nil)) (.nil)
def B_law_scan_2 : Sxs := .cons (.set 6 (.sub (.lc (.one 14) (.it (.var 2)) (.some (.cmp .gt (.var 14) (.var 3))) (.var 14)) (.int 0))) (.cons (.set 7 (.bin .sub (.var 3) (.bc .len (.cons (.mt .rstrip (.sl (.var 0) .no (.some (.var 3))) (.cons (.str ⟨#[46]⟩) (.nil))) (.nil))))) (.cons (.set 8 (.bin .sub (.bc .len (.cons (.sl (.var 0) (.some (.var 6)) .no) (.nil))) (.bc .len (.cons (.mt .lstrip (.sl (.var 0) (.some (.var 6)) .no) (.cons (.str ⟨#[46]⟩) (.nil))) (.nil))))) (.cons (.set 9 (.call 21 (.cons (.sl (.var 0) (.some (.var 3)) (.some (.var 6))) (.nil)))) (.cons (.for_ (.tup [11, 12]) (.it (.tup (.cons (.tup (.cons (.str ⟨#[116, 104, 105, 114, 116, 101, 101, 110]⟩) (.cons (.int 7) (.nil)))) (.cons (.tup (.cons (.str ⟨#[112, 97, 105, 114]⟩) (.cons (.int 5) (.nil)))) (.cons (.tup (.cons (.str ⟨#[101, 108, 101, 118, 101, 110]⟩) (.cons (.int 10) (.nil)))) (.nil)))))) B_law_scan_1) (.nil)))))
def b_law_scan : Sxs := .cons (.par [(4, true), (5, false)] (.cons (.lst (.nil)) (.cons (.lc (.tup [10, 13]) (.enum (.var 0)) (.some (.cmp .eq (.var 13) (.str ⟨#[35]⟩))) (.var 10)) (.nil)))) (.cons (.set 1 (.lc (.one 10) (.it (.var 5)) (.some (.or (.cmp .eq (.var 10) (.int 0)) (.one (.cmp .notin (.str ⟨#[35]⟩) (.sl (.var 0) (.some (.bc .max (.cons (.int 0) (.cons (.bin .sub (.var 10) (.int 5)) (.nil))))) (.some (.var 10))))))) (.var 10))) (.cons (.set 2 (.lc (.one 10) (.it (.var 5)) (.some (.cmp .notin (.str ⟨#[35]⟩) (.sl (.var 0) (.some (.bin .add (.var 10) (.int 1))) (.some (.bin .add (.var 10) (.int 6)))))) (.bin .add (.var 10) (.int 1)))) (.cons (.for_ (.one 3) (.it (.var 1)) B_law_scan_2) (.cons (.frz 4) (.cons (.ret (.var 4)) (.nil))))))
def F_law_scan : Fd := ⟨"_law_scan", 1, ["picture", "begins", "ends", "begin", "gathered", "dark", "end", "left", "right", "row", "k", "kind", "rim", "sign", "one", "text", "other"], b_law_scan⟩
/-! 115: _law_code(cell) -/
def b_law_code : Sxs := .cons (.set 1 (.call 4 (.cons (.var 0) (.cons (.int 9619) (.cons (.int 3) (.nil)))))) (.cons (.ite (.cmp .eq (.var 1) (.int 0)) (.cons (.set 3 (.call 38 (.cons (.call 32 (.cons (.var 0) (.cons (.int 12) (.nil)))) (.nil)))) (.cons (.ret (.tup (.cons (.str ⟨#[116, 104, 105, 114, 116, 101, 101, 110]⟩) (.cons (.call 42 (.cons (.var 3) (.nil))) (.cons (.var 3) (.nil)))))) (.nil))) (.nil)) (.cons (.ite (.cmp .eq (.var 1) (.int 1)) (.cons (.set 4 (.call 32 (.cons (.var 0) (.cons (.bin .add (.int 2) (.bin .mul (.int 2) (.call 4 (.cons (.var 0) (.cons (.int 9613) (.cons (.int 4) (.nil))))))) (.nil))))) (.cons (.ret (.tup (.cons (.str ⟨#[112, 97, 105, 114]⟩) (.cons (.var 4) (.cons (.call 49 (.cons (.var 4) (.cons (.bin .add (.int 2) (.call 4 (.cons (.var 0) (.cons (.int 9601) (.cons (.int 2) (.nil)))))) (.nil)))) (.nil)))))) (.nil))) (.nil)) (.cons (.set 2 (.call 85 (.cons (.var 0) (.cons (.int 4) (.nil))))) (.cons (.ret (.tup (.cons (.str ⟨#[101, 108, 101, 118, 101, 110]⟩) (.cons (.var 2) (.cons (.call 64 (.cons (.call 80 (.cons (.var 2) (.nil))) (.nil))) (.nil)))))) (.nil)))))
def F_law_code : Fd := ⟨"_law_code", 1, ["cell", "way", "text", "row", "figures"], b_law_code⟩
/-! 116: _law_picture(cell, many) -/
def B_law_picture_1 : Sxs := .cons (.set 4 (.bin .add (.var 0) (.bin .mul (.int 43) (.var 3)))) (.cons (.set 2 (.bin .add (.var 2) (.bin .mul (.str ⟨#[46]⟩) (.sub (.tup (.cons (.int 0) (.cons (.int 4) (.cons (.int 5) (.cons (.int 6) (.cons (.int 7) (.cons (.int 9) (.cons (.int 10) (.cons (.int 12) (.nil)))))))))) (.call 4 (.cons (.var 4) (.cons (.int 9587) (.cons (.int 8) (.nil))))))))) (.cons (.unp [5, 6, 7] (.call 115 (.cons (.var 4) (.nil)))) (.cons (.ite (.cmp .eq (.call 4 (.cons (.var 4) (.cons (.int 9547) (.cons (.int 5) (.nil))))) (.int 0)) (.cons (.set 7 (.bin .add (.sl (.var 7) .no (.some (.neg (.int 1)))) (.tup (.cons (.bin .add (.sub (.var 7) (.neg (.int 1))) (.int 1)) (.nil))))) (.nil)) (.nil)) (.cons (.ite (.cmp .eq (.call 4 (.cons (.var 4) (.cons (.int 9539) (.cons (.int 5) (.nil))))) (.int 1)) (.cons (.set 7 (.tup (.cons (.int 1) (.cons (.int 2) (.cons (.int 3) (.cons (.int 4) (.cons (.int 1) (.nil)))))))) (.nil)) (.nil)) (.cons (.set 2 (.bin .add (.var 2) (.call 6 (.cons (.ite (.cmp .eq (.call 4 (.cons (.var 4) (.cons (.int 9533) (.cons (.int 2) (.nil))))) (.int 0)) (.sls (.var 7) .no .no (-1)) (.var 7)) (.nil))))) (.nil))))))
def b_law_picture : Sxs := .cons (.set 2 (.str ⟨#[]⟩)) (.cons (.for_ (.one 3) (.rng (.cons (.var 1) (.nil))) B_law_picture_1) (.cons (.ret (.bin .add (.var 2) (.bin .mul (.str ⟨#[46]⟩) (.call 4 (.cons (.var 0) (.cons (.int 9521) (.cons (.int 13) (.nil)))))))) (.nil)))
def F_law_picture : Fd := ⟨"_law_picture", 2, ["cell", "many", "gathered", "k", "seed", "kind", "text", "row"], b_law_picture⟩
/-! 117: law(script) -/
def B_law_k15_1 : Sxs := .cons (.ite (.not (.call 20 (.cons (.call 112 (.cons (.var 5) (.nil))) (.cons (.bc .tuple (.cons (.call 114 (.cons (.var 5) (.nil))) (.nil))) (.nil))))) (.cons (.ret (.bl false)) (.nil)) (.nil)) (.nil)
def B_law_k15_2 : Sxs := .cons (.set 4 (.call 116 (.cons (.bin .add (.call 3 (.cons (.var 0) (.cons (.bin .mod (.var 1) (.int 9)) (.nil)))) (.bin .mul (.int 31) (.var 1))) (.cons (.bin .add (.int 1) (.bin .mod (.var 1) (.int 4))) (.nil))))) (.cons (.for_ (.one 5) (.it (.tup (.cons (.var 4) (.cons (.sls (.var 4) .no .no (-1)) (.cons (.sl (.var 4) (.some (.int 1)) .no) (.cons (.bin .add (.bin .mul (.str ⟨#[46]⟩) (.int 10)) (.var 4)) (.nil))))))) B_law_k15_1) (.nil))
def b_law_k15 : Sxs := .cons (.for_ (.one 1) (.rng (.cons (.int 10) (.nil))) B_law_k15_2) (.cons (.set 2 (.call 49 (.cons (.str ⟨#[52, 50]⟩) (.cons (.int 2) (.nil))))) (.cons (.set 3 (.call 6 (.cons (.var 2) (.nil)))) (.cons (.ite (.or (.cmp .ne (.call 112 (.cons (.bin .add (.bin .add (.str ⟨#[46, 46, 46, 46, 46]⟩) (.var 3)) (.str ⟨#[46, 46, 46, 46, 46, 35]⟩)) (.nil))) (.tup (.cons (.tup (.cons (.int 5) (.cons (.str ⟨#[112, 97, 105, 114]⟩) (.cons (.str ⟨#[52, 50]⟩) (.cons (.bl false) (.nil)))))) (.nil)))) (.one (.cmp .ne (.call 112 (.cons (.bin .add (.bin .add (.str ⟨#[46, 46, 46, 46, 46]⟩) (.var 3)) (.str ⟨#[46, 46, 46, 46, 35]⟩)) (.nil))) (.tup (.nil))))) (.cons (.ret (.bl false)) (.nil)) (.nil)) (.cons (.ite (.or (.cmp .ne (.call 112 (.cons (.bin .add (.str ⟨#[35, 46, 46, 46, 46]⟩) (.var 3)) (.nil))) (.tup (.nil))) (.one (.cmp .ne (.call 112 (.cons (.sls (.var 3) .no .no (-1)) (.nil))) (.tup (.cons (.tup (.cons (.int 0) (.cons (.str ⟨#[112, 97, 105, 114]⟩) (.cons (.str ⟨#[52, 50]⟩) (.cons (.bl true) (.nil)))))) (.nil)))))) (.cons (.ret (.bl false)) (.nil)) (.nil)) (.cons (.ret (.and (.cmp .eq (.call 112 (.cons (.str ⟨#[]⟩) (.nil))) (.tup (.nil))) (.and (.cmp .eq (.call 112 (.cons (.str ⟨#[46, 46, 46, 46, 46, 46]⟩) (.nil))) (.tup (.nil))) (.one (.cmp .eq (.call 112 (.cons (.bin .add (.bin .add (.str ⟨#[46, 46, 46]⟩) (.var 3)) (.str ⟨#[46]⟩)) (.nil))) (.tup (.cons (.tup (.cons (.int 3) (.cons (.str ⟨#[112, 97, 105, 114]⟩) (.cons (.str ⟨#[52, 50]⟩) (.cons (.bl false) (.nil)))))) (.nil)))))))) (.nil))))))
def F_law_k15 : Fd := ⟨"law", 1, ["script", "k", "row", "spots", "picture", "some"], b_law_k15⟩
/-! 118: _law_end(picture, place) -/
def b_law_end : Sxs := .cons (.set 2 (.mt .find (.var 0) (.cons (.bin .mul (.str ⟨#[46]⟩) (.int 10)) (.cons (.var 1) (.nil))))) (.cons (.ret (.ite (.cmp .lt (.var 2) (.int 0)) (.bc .len (.cons (.mt .rstrip (.var 0) (.cons (.str ⟨#[46]⟩) (.nil))) (.nil))) (.var 2))) (.nil))
def F_law_end : Fd := ⟨"_law_end", 2, ["picture", "place", "end"], b_law_end⟩
/-! 119: law(script) -/
def B_law_k16_1 : Sxs := .cons (.unp [14, 15, 16] (.call 115 (.cons (.bin .add (.var 2) (.bin .mul (.int 19) (.var 3))) (.nil)))) (.cons (.set 12 (.cmp .eq (.call 4 (.cons (.bin .add (.var 2) (.var 3)) (.cons (.int 9497) (.cons (.int 2) (.nil))))) (.int 1))) (.cons (.set 13 (.bin .add (.int 10) (.call 4 (.cons (.bin .add (.var 2) (.bin .mul (.int 3) (.var 3))) (.cons (.int 9491) (.cons (.int 5) (.nil))))))) (.cons (.app 10 (.tup (.cons (.bin .add (.bc .len (.cons (.var 9) (.nil))) (.var 13)) (.cons (.var 14) (.cons (.var 15) (.cons (.and (.var 12) (.one (.cmp .ne (.var 16) (.sls (.var 16) .no .no (-1))))) (.nil))))))) (.cons (.set 9 (.bin .add (.var 9) (.call 13 (.cons (.ite (.var 12) (.sls (.var 16) .no .no (-1)) (.var 16)) (.cons (.var 13) (.nil)))))) (.cons (.app 11 (.bc .len (.cons (.var 9) (.nil)))) (.nil))))))
def B_law_k16_2 : Sxs := .cons (.par [(18, false), (19, false)] (.cons (.call 112 (.cons (.sl (.var 9) .no (.some (.var 7))) (.nil))) (.cons (.call 112 (.cons (.sl (.var 9) (.some (.var 7)) .no) (.nil))) (.nil)))) (.cons (.ite (.cmp .ne (.bin .add (.var 18) (.bc .tuple (.cons (.lc (.one 17) (.it (.var 19)) .no (.bin .add (.tup (.cons (.bin .add (.sub (.var 17) (.int 0)) (.var 7)) (.nil))) (.sl (.var 17) (.some (.int 1)) .no))) (.nil)))) (.var 4)) (.cons (.ret (.bl false)) (.nil)) (.nil)) (.nil))
def B_law_k16_3 : Sxs := .cons (.set 2 (.bin .add (.call 3 (.cons (.var 0) (.cons (.bin .mod (.var 1) (.int 9)) (.nil)))) (.bin .mul (.int 31) (.var 1)))) (.cons (.par [(9, false), (10, true), (11, true)] (.cons (.str ⟨#[]⟩) (.cons (.lst (.nil)) (.cons (.lst (.cons (.int 0) (.nil))) (.nil))))) (.cons (.for_ (.one 3) (.rng (.cons (.call 4 (.cons (.var 2) (.cons (.int 9511) (.cons (.int 5) (.nil))))) (.nil))) B_law_k16_1) (.cons (.set 4 (.call 112 (.cons (.var 9) (.nil)))) (.cons (.set 5 (.lc (.one 17) (.it (.var 4)) (.some (.cmp .ne (.sub (.var 17) (.int 1)) (.str ⟨#[101, 108, 101, 118, 101, 110]⟩))) (.var 17))) (.cons (.frz 10) (.cons (.ite (.or (.cmp .ne (.var 5) (.lc (.one 17) (.it (.var 10)) (.some (.cmp .ne (.sub (.var 17) (.int 1)) (.str ⟨#[101, 108, 101, 118, 101, 110]⟩))) (.var 17))) (.one (.cmp .ne (.bc .len (.cons (.var 4) (.nil))) (.bc .len (.cons (.var 10) (.nil)))))) (.cons (.ret (.bl false)) (.nil)) (.nil)) (.cons (.ite (.or (.cmp .ne (.lc (.one 17) (.it (.var 4)) .no (.sub (.var 17) (.int 0))) (.lc (.one 17) (.it (.var 10)) .no (.sub (.var 17) (.int 0)))) (.one (.cmp .ne (.lc (.one 17) (.it (.var 4)) .no (.sub (.var 17) (.int 1))) (.lc (.one 17) (.it (.var 10)) .no (.sub (.var 17) (.int 1)))))) (.cons (.ret (.bl false)) (.nil)) (.nil)) (.cons (.set 6 (.call 112 (.cons (.sls (.var 9) .no .no (-1)) (.nil)))) (.cons (.ite (.cmp .ne (.sls (.lc (.one 17) (.it (.var 6)) .no (.sl (.var 17) .no (.some (.int 2)))) .no .no (-1)) (.lc (.one 17) (.it (.var 4)) .no (.tup (.cons (.bin .sub (.bc .len (.cons (.var 9) (.nil))) (.call 118 (.cons (.var 9) (.cons (.sub (.var 17) (.int 0)) (.nil))))) (.cons (.sub (.var 17) (.int 1)) (.nil)))))) (.cons (.ret (.bl false)) (.nil)) (.nil)) (.cons (.frz 11) (.cons (.for_ (.one 7) (.it (.var 11)) B_law_k16_2) (.cons (.set 8 (.bc .tuple (.cons (.lc (.one 17) (.it (.var 4)) .no (.bin .add (.tup (.cons (.bin .add (.sub (.var 17) (.int 0)) (.int 3)) (.nil))) (.sl (.var 17) (.some (.int 1)) .no))) (.nil)))) (.cons (.ite (.or (.cmp .ne (.call 112 (.cons (.bin .add (.var 9) (.bin .mul (.str ⟨#[46]⟩) (.int 12))) (.nil))) (.var 4)) (.one (.cmp .ne (.call 112 (.cons (.bin .add (.str ⟨#[46, 46, 46]⟩) (.var 9)) (.nil))) (.var 8)))) (.cons (.ret (.bl false)) (.nil)) (.nil)) (.cons (.ite (.cmp .ne (.call 112 (.cons (.call 13 (.cons (.tup (.cons (.int 1) (.cons (.int 1) (.cons (.int 1) (.cons (.int 2) (.cons (.int 1) (.nil))))))) (.cons (.int 10) (.nil)))) (.nil))) (.tup (.nil))) (.cons (.ret (.bl false)) (.nil)) (.nil)) (.nil)))))))))))))))
def b_law_k16 : Sxs := .cons (.for_ (.one 1) (.rng (.cons (.int 10) (.nil))) B_law_k16_3) (.cons (.ret (.bl true)) (.nil))
def F_law_k16 : Fd := ⟨"law", 1, ["script", "k", "cell", "j", "some", "plain_ones", "mirror", "cut", "later", "picture", "due", "cuts", "is_turned", "rim", "kind", "text", "row", "one", "left", "right"], b_law_k16⟩
/-! 120: end_of(picture, one) -/
def b_end_of : Sxs := .cons (.ret (.sub (.lc (.tup [2, 3, 4, 5]) (.it (.call 111 (.cons (.var 0) (.nil)))) (.some (.cmp .eq (.var 2) (.sub (.var 1) (.int 0)))) (.var 3)) (.int 0))) (.nil)
def F_end_of : Fd := ⟨"end_of", 2, ["picture", "one", "begin", "end", "left", "right"], b_end_of⟩
/-! 122: _law_end(picture, place) -/
def b_law_end_k17 : Sxs := .cons (.set 2 (.mt .find (.var 0) (.cons (.bin .mul (.str ⟨#[46]⟩) (.int 5)) (.cons (.var 1) (.nil))))) (.cons (.ret (.ite (.cmp .lt (.var 2) (.int 0)) (.bc .len (.cons (.mt .rstrip (.var 0) (.cons (.str ⟨#[46]⟩) (.nil))) (.nil))) (.var 2))) (.nil))
def F_law_end_k17 : Fd := ⟨"_law_end", 2, ["picture", "place", "end"], b_law_end_k17⟩
/-! 125: told_by(read, row) -/
def b_told_by_k19 : Sxs := .cons (.tryo (.cons (.ret (.callv 0 [] (.cons (.var 1) (.nil)))) (.nil)) 2 (.cons (.ret (.non)) (.nil))) (.nil)
def F_told_by_k19 : Fd := ⟨"told_by", 2, ["read", "row"], b_told_by_k19⟩
/-! 127: kinds_for(text) -/
def b_kinds_for : Sxs := .cons (.ret (.bc .tuple (.cons (.lc (.one 1) (.it (.con 28)) (.some (.cmp .isnot (.call 126 (.cons (.var 1) (.cons (.var 0) (.nil)))) (.non))) (.var 1)) (.nil)))) (.nil)
def F_kinds_for : Fd := ⟨"kinds_for", 1, ["text", "kind"], b_kinds_for⟩
/-! 128: best(text) -/
def b_best : Sxs := .cons (.set 1 (.lc (.one 2) (.it (.call 127 (.cons (.var 0) (.nil)))) .no (.tup (.cons (.call 11 (.cons (.call 126 (.cons (.var 2) (.cons (.var 0) (.nil)))) (.nil))) (.cons (.mt .indexT (.con 28) (.cons (.var 2) (.nil))) (.nil)))))) (.cons (.ite (.not (.var 1)) (.cons (.raise 2) (.nil)) (.nil)) (.cons (.set 2 (.sub (.con 28) (.sub (.bc .min (.cons (.var 1) (.nil))) (.int 1)))) (.cons (.ret (.tup (.cons (.var 2) (.cons (.call 126 (.cons (.var 2) (.cons (.var 0) (.nil)))) (.nil))))) (.nil))))
def F_best : Fd := ⟨"best", 1, ["text", "some", "kind"], b_best⟩
/-! 129: power_of_ten(many) -/
def B_power_of_ten_1 : Sxs := .cons (.set 1 (.bin .mul (.int 10) (.var 1))) (.nil)
def b_power_of_ten : Sxs := .cons (.set 1 (.int 1)) (.cons (.for_ (.one 2) (.rng (.cons (.var 0) (.nil))) B_power_of_ten_1) (.cons (.ret (.var 1)) (.nil)))
def F_power_of_ten : Fd := ⟨"power_of_ten", 1, ["many", "found", "turn"], b_power_of_ten⟩
/-! 130: many_texts(kind, spots) -/
def B_many_texts_1 : Sxs := .cons (.ite (.cmp .isin (.var 1) (.lc (.one 4) (.it (.con 12)) .no (.bin .add (.bin .add (.int 6) (.var 4)) (.bin .mul (.var 3) (.bin .add (.int 3) (.bin .mul (.int 2) (.var 4))))))) (.cons (.app 2 (.var 3)) (.nil)) (.nil)) (.nil)
def b_many_texts : Sxs := .cons (.ite (.cmp .eq (.var 0) (.str ⟨#[116, 104, 105, 114, 116, 101, 101, 110]⟩)) (.cons (.ret (.ite (.cmp .eq (.var 1) (.con 24)) (.call 129 (.cons (.int 12) (.nil))) (.int 0))) (.nil)) (.nil)) (.cons (.ite (.cmp .ne (.var 0) (.str ⟨#[112, 97, 105, 114]⟩)) (.cons (.raise 2) (.nil)) (.nil)) (.cons (.own 2 (.lst (.nil))) (.cons (.for_ (.one 3) (.rng (.cons (.int 2) (.cons (.bin .add (.con 11) (.int 1)) (.cons (.int 2) (.nil))))) B_many_texts_1) (.cons (.frz 2) (.cons (.ret (.bc .sum (.cons (.lc (.one 3) (.it (.var 2)) .no (.call 129 (.cons (.var 3) (.nil)))) (.nil)))) (.nil))))))
def F_many_texts : Fd := ⟨"many_texts", 2, ["kind", "spots", "lengths", "figures", "wide"], b_many_texts⟩
/-! 131: _law_said(way, one, other) -/
def b_law_said_k19 : Sxs := .cons (.tryw (.cons (.ret (.ite (.cmp .eq (.var 0) (.int 0)) (.call 128 (.cons (.var 1) (.nil))) (.call 130 (.cons (.var 1) (.cons (.var 2) (.nil)))))) (.nil)) 0 3) (.nil)
def F_law_said_k19 : Fd := ⟨"_law_said", 3, ["way", "one", "other", "e"], b_law_said_k19⟩
/-! 132: _law_rows(text) -/
def b_law_rows : Sxs := .cons (.own 1 (.lst (.nil))) (.cons (.set 2 (.cmp .eq (.lc (.one 3) (.it (.var 0)) (.some (.cmp .notin (.var 3) (.str ⟨#[48, 49, 50, 51, 52, 53, 54, 55, 56, 57]⟩))) (.var 3)) (.lst (.nil)))) (.cons (.ite (.and (.var 2) (.and (.cmp .eq (.bc .len (.cons (.var 0) (.nil))) (.int 13)) (.one (.call 27 (.cons (.var 0) (.nil)))))) (.cons (.app 1 (.tup (.cons (.str ⟨#[116, 104, 105, 114, 116, 101, 101, 110]⟩) (.cons (.call 38 (.cons (.var 0) (.nil))) (.nil))))) (.nil)) (.nil)) (.cons (.ite (.and (.var 2) (.and (.cmp .eq (.bin .mod (.bc .len (.cons (.var 0) (.nil))) (.int 2)) (.int 0)) (.one (.chn .lt .lt (.int 1) (.bc .len (.cons (.var 0) (.nil))) (.int 21))))) (.cons (.app 1 (.tup (.cons (.str ⟨#[112, 97, 105, 114]⟩) (.cons (.call 49 (.cons (.var 0) (.cons (.int 2) (.nil)))) (.nil))))) (.nil)) (.nil)) (.cons (.tryo (.cons (.app 1 (.tup (.cons (.str ⟨#[101, 108, 101, 118, 101, 110]⟩) (.cons (.call 64 (.cons (.call 80 (.cons (.var 0) (.nil))) (.nil))) (.nil))))) (.nil)) 0 (.cons (.frz 1) (.cons (.ret (.var 1)) (.nil)))) (.cons (.frz 1) (.cons (.ret (.var 1)) (.nil)))))))
def F_law_rows : Fd := ⟨"_law_rows", 1, ["text", "gathered", "are_figures_all", "sign"], b_law_rows⟩
/-! 133: law(script) -/
def B_law_k19_1 : Sxs := .cons (.set 7 (.call 132 (.cons (.var 4) (.nil)))) (.cons (.set 8 (.str ⟨#[110, 111, 32, 99, 111, 100, 101]⟩)) (.cons (.ite (.cmp .ne (.var 7) (.lst (.nil))) (.cons (.set 9 (.bc .min (.cons (.lc (.tup [6, 12]) (.it (.var 7)) .no (.bc .sum (.cons (.var 12) (.nil)))) (.nil)))) (.cons (.set 8 (.sub (.lc (.one 11) (.it (.var 7)) (.some (.cmp .eq (.bc .sum (.cons (.sub (.var 11) (.int 1)) (.nil))) (.var 9))) (.var 11)) (.int 0))) (.nil))) (.nil)) (.cons (.ite (.not (.call 20 (.cons (.tup (.cons (.call 127 (.cons (.var 4) (.nil))) (.cons (.call 131 (.cons (.int 0) (.cons (.var 4) (.cons (.int 0) (.nil))))) (.nil)))) (.cons (.tup (.cons (.bc .tuple (.cons (.lc (.one 11) (.it (.var 7)) .no (.sub (.var 11) (.int 0))) (.nil))) (.cons (.var 8) (.nil)))) (.nil))))) (.cons (.ret (.bl false)) (.nil)) (.nil)) (.nil))))
def B_law_k19_2 : Sxs := .cons (.ite (.cmp .isin (.var 5) (.tup (.cons (.bin .add (.int 8) (.bin .mul (.int 7) (.var 10))) (.cons (.bin .add (.int 9) (.bin .mul (.int 9) (.var 10))) (.nil))))) (.cons (.set 8 (.bin .add (.var 8) (.bc .int (.cons (.bin .add (.str ⟨#[49]⟩) (.bin .mul (.str ⟨#[48]⟩) (.var 10))) (.nil))))) (.nil)) (.nil)) (.nil)
def B_law_k19_3 : Sxs := .cons (.set 8 (.str ⟨#[110, 111, 32, 99, 111, 100, 101]⟩)) (.cons (.ite (.cmp .eq (.var 6) (.str ⟨#[116, 104, 105, 114, 116, 101, 101, 110]⟩)) (.cons (.set 8 (.ite (.cmp .eq (.var 5) (.int 95)) (.bin .pow (.int 10) (.int 12)) (.int 0))) (.nil)) (.nil)) (.cons (.ite (.cmp .eq (.var 6) (.str ⟨#[112, 97, 105, 114]⟩)) (.cons (.set 8 (.int 0)) (.cons (.for_ (.one 10) (.rng (.cons (.int 2) (.cons (.int 21) (.cons (.int 2) (.nil))))) B_law_k19_2) (.nil))) (.nil)) (.cons (.ite (.not (.call 20 (.cons (.call 131 (.cons (.int 1) (.cons (.var 6) (.cons (.var 5) (.nil))))) (.cons (.var 8) (.nil))))) (.cons (.ret (.bl false)) (.nil)) (.nil)) (.nil))))
def B_law_k19_4 : Sxs := .cons (.set 2 (.bin .add (.call 3 (.cons (.var 0) (.cons (.bin .mod (.var 1) (.int 9)) (.nil)))) (.bin .mul (.int 31) (.var 1)))) (.cons (.set 3 (.lst (.cons (.call 43 (.cons (.var 2) (.nil))) (.cons (.call 32 (.cons (.var 2) (.cons (.bin .add (.int 1) (.call 4 (.cons (.var 2) (.cons (.int 9467) (.cons (.int 24) (.nil)))))) (.nil)))) (.nil))))) (.cons (.set 3 (.bin .add (.var 3) (.lst (.cons (.call 85 (.cons (.var 2) (.cons (.int 24) (.nil)))) (.nil))))) (.cons (.set 3 (.bin .add (.var 3) (.lst (.cons (.str ⟨#[64]⟩) (.cons (.bin .mul (.str ⟨#[97]⟩) (.int 25)) (.cons (.bin .mul (.str ⟨#[48]⟩) (.int 22)) (.nil))))))) (.cons (.for_ (.one 4) (.it (.var 3)) B_law_k19_1) (.cons (.set 5 (.call 4 (.cons (.bin .add (.call 3 (.cons (.var 0) (.cons (.int 9) (.nil)))) (.var 1)) (.cons (.int 9463) (.cons (.int 220) (.nil)))))) (.cons (.for_ (.one 6) (.it (.tup (.cons (.str ⟨#[116, 104, 105, 114, 116, 101, 101, 110]⟩) (.cons (.str ⟨#[112, 97, 105, 114]⟩) (.cons (.str ⟨#[101, 108, 101, 118, 101, 110]⟩) (.cons (.str ⟨#[111, 116, 104, 101, 114]⟩) (.nil))))))) B_law_k19_3) (.nil)))))))
def b_law_k19 : Sxs := .cons (.for_ (.one 1) (.rng (.cons (.int 16) (.nil))) B_law_k19_4) (.cons (.ret (.and (.cmp .eq (.call 130 (.cons (.str ⟨#[116, 104, 105, 114, 116, 101, 101, 110]⟩) (.cons (.int 95) (.nil)))) (.bin .pow (.int 10) (.int 12))) (.and (.cmp .eq (.call 130 (.cons (.str ⟨#[112, 97, 105, 114]⟩) (.cons (.int 22) (.nil)))) (.int 100)) (.one (.cmp .eq (.sub (.call 128 (.cons (.str ⟨#[49, 50]⟩) (.nil))) (.int 0)) (.str ⟨#[112, 97, 105, 114]⟩)))))) (.nil))
def F_law_k19 : Fd := ⟨"law", 1, ["script", "k", "cell", "texts", "text", "spots", "kind", "some", "due", "least", "many", "one", "row"], b_law_k19⟩
/-! 134: is_pair(thing) -/
def b_is_pair : Sxs := .cons (.ite (.or (.not (.bc .isi (.cons (.var 0) (.cons (.ty 3) (.nil))))) (.or (.cmp .ne (.bc .len (.cons (.var 0) (.nil))) (.int 2)) (.one (.not (.bc .all (.cons (.lc (.one 1) (.it (.var 0)) .no (.bc .isi (.cons (.var 1) (.cons (.ty 1) (.nil))))) (.nil))))))) (.cons (.ret (.bl false)) (.nil)) (.nil)) (.cons (.ret (.and (.cmp .isin (.sub (.var 0) (.int 0)) (.con 28)) (.one (.cmp .isin (.sub (.var 0) (.int 0)) (.call 127 (.cons (.sub (.var 0) (.int 1)) (.nil))))))) (.nil))
def F_is_pair : Fd := ⟨"is_pair", 1, ["thing", "one"], b_is_pair⟩
/-! 135: is_label(thing) -/
def b_is_label : Sxs := .cons (.ret (.and (.bc .isi (.cons (.var 0) (.cons (.ty 3) (.nil)))) (.and (.cmp .le (.bc .len (.cons (.var 0) (.nil))) (.con 29)) (.one (.bc .all (.cons (.lc (.one 1) (.it (.var 0)) .no (.call 134 (.cons (.var 1) (.nil)))) (.nil))))))) (.nil)
def F_is_label : Fd := ⟨"is_label", 1, ["thing", "one"], b_is_label⟩
/-! 136: label_picture(label) -/
def b_label_picture : Sxs := .cons (.ret (.mt .join (.str ⟨#[]⟩) (.cons (.lc (.tup [1, 2]) (.it (.var 0)) .no (.call 13 (.cons (.call 126 (.cons (.var 1) (.cons (.var 2) (.nil)))) (.cons (.con 30) (.nil))))) (.nil)))) (.nil)
def F_label_picture : Fd := ⟨"label_picture", 1, ["label", "kind", "text"], b_label_picture⟩
/-! 137: label_text(label) -/
def b_label_text : Sxs := .cons (.ret (.mt .join (.str ⟨#[]⟩) (.cons (.lc (.tup [1, 2]) (.it (.var 0)) .no (.bin .add (.bin .add (.bin .add (.var 1) (.str ⟨#[32]⟩)) (.var 2)) (.str ⟨#[10]⟩))) (.nil)))) (.nil)
def F_label_text : Fd := ⟨"label_text", 1, ["label", "kind", "text"], b_label_text⟩
/-! 138: read_label(text) -/
def b_read_label : Sxs := .cons (.set 1 (.lc (.one 3) (.it (.sl (.mt .split (.var 0) (.cons (.str ⟨#[10]⟩) (.nil))) .no (.some (.neg (.int 1))))) .no (.mt .partition (.var 3) (.cons (.str ⟨#[32]⟩) (.nil))))) (.cons (.set 2 (.bc .tuple (.cons (.lc (.tup [4, 5, 6]) (.it (.var 1)) .no (.tup (.cons (.var 4) (.cons (.var 6) (.nil))))) (.nil)))) (.cons (.ite (.or (.not (.call 135 (.cons (.var 2) (.nil)))) (.one (.cmp .ne (.call 137 (.cons (.var 2) (.nil))) (.var 0)))) (.cons (.raise 5) (.nil)) (.nil)) (.cons (.ret (.var 2)) (.nil))))
def F_read_label : Fd := ⟨"read_label", 1, ["text", "rows", "found", "row", "kind", "between", "rest"], b_read_label⟩
/-! 139: _law_label(cell) -/
def B_law_label_1 : Sxs := .cons (.set 3 (.bin .add (.var 0) (.bin .mul (.int 47) (.var 2)))) (.cons (.set 4 (.sub (.tup (.cons (.str ⟨#[116, 104, 105, 114, 116, 101, 101, 110]⟩) (.cons (.str ⟨#[112, 97, 105, 114]⟩) (.cons (.str ⟨#[101, 108, 101, 118, 101, 110]⟩) (.nil))))) (.call 4 (.cons (.var 3) (.cons (.int 9439) (.cons (.int 3) (.nil))))))) (.cons (.set 5 (.call 43 (.cons (.var 3) (.nil)))) (.cons (.ite (.cmp .eq (.var 4) (.str ⟨#[112, 97, 105, 114]⟩)) (.cons (.set 5 (.call 32 (.cons (.var 3) (.cons (.bin .add (.int 2) (.bin .mul (.int 2) (.call 4 (.cons (.var 3) (.cons (.int 9437) (.cons (.int 5) (.nil))))))) (.nil))))) (.nil)) (.nil)) (.cons (.ite (.cmp .eq (.var 4) (.str ⟨#[101, 108, 101, 118, 101, 110]⟩)) (.cons (.set 5 (.call 85 (.cons (.var 3) (.cons (.int 6) (.nil))))) (.nil)) (.nil)) (.cons (.set 1 (.bin .add (.var 1) (.tup (.cons (.tup (.cons (.var 4) (.cons (.var 5) (.nil)))) (.nil))))) (.nil))))))
def b_law_label : Sxs := .cons (.set 1 (.tup (.nil))) (.cons (.for_ (.one 2) (.rng (.cons (.call 4 (.cons (.var 0) (.cons (.int 9461) (.cons (.int 7) (.nil))))) (.nil))) B_law_label_1) (.cons (.ret (.var 1)) (.nil)))
def F_law_label : Fd := ⟨"_law_label", 1, ["cell", "gathered", "k", "seed", "kind", "text"], b_law_label⟩
/-! 140: _law_is_label(thing) -/
def B_law_is_label_1 : Sxs := .cons (.ite (.or (.not (.bc .isi (.cons (.var 1) (.cons (.ty 3) (.nil))))) (.or (.cmp .ne (.bc .len (.cons (.var 1) (.nil))) (.int 2)) (.one (.cmp .ne (.lc (.one 2) (.it (.var 1)) (.some (.not (.bc .isi (.cons (.var 2) (.cons (.ty 1) (.nil)))))) (.var 2)) (.lst (.nil)))))) (.cons (.ret (.bl false)) (.nil)) (.nil)) (.cons (.ite (.cmp .notin (.sub (.var 1) (.int 0)) (.call 127 (.cons (.sub (.var 1) (.int 1)) (.nil)))) (.cons (.ret (.bl false)) (.nil)) (.nil)) (.nil))
def b_law_is_label : Sxs := .cons (.ite (.or (.not (.bc .isi (.cons (.var 0) (.cons (.ty 3) (.nil))))) (.one (.cmp .gt (.bc .len (.cons (.var 0) (.nil))) (.int 6)))) (.cons (.ret (.bl false)) (.nil)) (.nil)) (.cons (.for_ (.one 1) (.it (.var 0)) B_law_is_label_1) (.cons (.ret (.bl true)) (.nil)))
def F_law_is_label : Fd := ⟨"_law_is_label", 1, ["thing", "one", "part"], b_law_is_label⟩
/-! 141: _law_read(here) -/
def b_law_read_k20 : Sxs := .cons (.tryo (.cons (.ret (.call 138 (.cons (.var 0) (.nil)))) (.nil)) 0 (.cons (.ret (.non)) (.nil))) (.nil)
def F_law_read_k20 : Fd := ⟨"_law_read", 1, ["here"], b_law_read_k20⟩
/-! 142: law(script) -/
def B_law_k20_1 : Sxs := .cons (.app 4 (.call 7 (.cons (.var 3) (.cons (.bin .add (.bin .add (.call 3 (.cons (.var 0) (.cons (.int 9) (.nil)))) (.bin .mul (.int 17) (.var 5))) (.bin .mul (.int 5) (.var 1))) (.nil))))) (.nil)
def B_law_k20_2 : Sxs := .cons (.ite (.or (.cmp .notin (.call 135 (.cons (.var 6) (.nil))) (.tup (.cons (.bl true) (.cons (.bl false) (.nil))))) (.one (.cmp .ne (.call 135 (.cons (.var 6) (.nil))) (.call 140 (.cons (.var 6) (.nil)))))) (.cons (.ret (.bl false)) (.nil)) (.nil)) (.nil)
def B_law_k20_3 : Sxs := .cons (.set 11 (.ite (.cmp .eq (.var 9) (.str ⟨#[101, 108, 101, 118, 101, 110]⟩)) (.call 64 (.cons (.call 80 (.cons (.var 10) (.nil))) (.nil))) (.call 38 (.cons (.bin .mul (.str ⟨#[48]⟩) (.int 12)) (.nil))))) (.cons (.ite (.cmp .ne (.var 9) (.str ⟨#[101, 108, 101, 118, 101, 110]⟩)) (.cons (.set 11 (.ite (.cmp .eq (.var 9) (.str ⟨#[116, 104, 105, 114, 116, 101, 101, 110]⟩)) (.call 38 (.cons (.var 10) (.nil))) (.call 49 (.cons (.var 10) (.cons (.int 2) (.nil)))))) (.nil)) (.nil)) (.cons (.set 7 (.bin .add (.bin .add (.bin .add (.var 7) (.bin .mul (.str ⟨#[46]⟩) (.int 10))) (.call 6 (.cons (.var 11) (.nil)))) (.bin .mul (.str ⟨#[46]⟩) (.int 10)))) (.cons (.set 8 (.bin .add (.bin .add (.bin .add (.bin .add (.var 8) (.var 9)) (.str ⟨#[32]⟩)) (.var 10)) (.str ⟨#[10]⟩))) (.nil))))
def B_law_k20_4 : Sxs := .cons (.set 2 (.bin .add (.call 3 (.cons (.var 0) (.cons (.var 1) (.nil)))) (.bin .mul (.int 3) (.var 1)))) (.cons (.set 3 (.call 139 (.cons (.var 2) (.nil)))) (.cons (.own 4 (.lst (.cons (.var 3) (.cons (.bc .list (.cons (.var 3) (.nil))) (.cons (.bin .add (.bin .add (.bin .add (.var 3) (.var 3)) (.var 3)) (.bin .mul (.tup (.cons (.tup (.cons (.str ⟨#[112, 97, 105, 114]⟩) (.cons (.str ⟨#[49, 50]⟩) (.nil)))) (.nil))) (.int 7))) (.nil)))))) (.cons (.own 4 (.bin .add (.pk 4) (.lst (.cons (.tup (.cons (.tup (.cons (.str ⟨#[112, 97, 105, 114]⟩) (.cons (.str ⟨#[49]⟩) (.nil)))) (.nil))) (.cons (.tup (.cons (.tup (.cons (.str ⟨#[116, 104, 105, 114, 116, 101, 101, 110]⟩) (.cons (.bin .mul (.str ⟨#[49]⟩) (.int 13)) (.nil)))) (.nil))) (.cons (.tup (.cons (.tup (.cons (.str ⟨#[111, 116, 104, 101, 114]⟩) (.cons (.str ⟨#[49, 50]⟩) (.nil)))) (.nil))) (.nil))))))) (.cons (.own 4 (.bin .add (.pk 4) (.lst (.cons (.tup (.cons (.tup (.cons (.str ⟨#[101, 108, 101, 118, 101, 110]⟩) (.cons (.str ⟨#[64]⟩) (.nil)))) (.nil))) (.cons (.tup (.cons (.tup (.cons (.str ⟨#[101, 108, 101, 118, 101, 110]⟩) (.cons (.str ⟨#[]⟩) (.nil)))) (.nil))) (.nil)))))) (.cons (.own 4 (.bin .add (.pk 4) (.lst (.cons (.tup (.cons (.tup (.cons (.str ⟨#[112, 97, 105, 114]⟩) (.cons (.int 12) (.nil)))) (.nil))) (.cons (.tup (.cons (.tup (.cons (.str ⟨#[112, 97, 105, 114]⟩) (.cons (.str ⟨#[49, 50]⟩) (.cons (.str ⟨#[120]⟩) (.nil))))) (.nil))) (.nil)))))) (.cons (.own 4 (.bin .add (.pk 4) (.lst (.cons (.tup (.cons (.str ⟨#[112, 97, 105, 114]⟩) (.cons (.str ⟨#[49, 50]⟩) (.nil)))) (.cons (.non) (.cons (.bin .mul (.tup (.cons (.tup (.cons (.str ⟨#[112, 97, 105, 114]⟩) (.cons (.str ⟨#[49, 50]⟩) (.nil)))) (.nil))) (.int 6)) (.nil))))))) (.cons (.for_ (.one 5) (.rng (.cons (.int 16) (.nil))) B_law_k20_1) (.cons (.frz 4) (.cons (.for_ (.one 6) (.it (.var 4)) B_law_k20_2) (.cons (.unp [7, 8] (.tup (.cons (.str ⟨#[]⟩) (.cons (.str ⟨#[]⟩) (.nil))))) (.cons (.for_ (.tup [9, 10]) (.it (.var 3)) B_law_k20_3) (.cons (.ite (.not (.call 20 (.cons (.tup (.cons (.call 136 (.cons (.var 3) (.nil))) (.cons (.call 137 (.cons (.var 3) (.nil))) (.cons (.call 141 (.cons (.var 8) (.nil))) (.nil))))) (.cons (.tup (.cons (.var 7) (.cons (.var 8) (.cons (.var 3) (.nil))))) (.nil))))) (.cons (.ret (.bl false)) (.nil)) (.nil)) (.nil)))))))))))))
def b_law_k20 : Sxs := .cons (.for_ (.one 1) (.rng (.cons (.int 8) (.nil))) B_law_k20_4) (.cons (.ret (.and (.cmp .eq (.call 137 (.cons (.tup (.cons (.tup (.cons (.str ⟨#[112, 97, 105, 114]⟩) (.cons (.str ⟨#[49, 50]⟩) (.nil)))) (.cons (.tup (.cons (.str ⟨#[101, 108, 101, 118, 101, 110]⟩) (.cons (.str ⟨#[97, 32, 98]⟩) (.nil)))) (.nil)))) (.nil))) (.str ⟨#[112, 97, 105, 114, 32, 49, 50, 10, 101, 108, 101, 118, 101, 110, 32, 97, 32, 98, 10]⟩)) (.one (.cmp .eq (.call 138 (.cons (.str ⟨#[]⟩) (.nil))) (.tup (.nil)))))) (.nil))
def F_law_k20 : Fd := ⟨"law", 1, ["script", "k", "cell", "label", "some", "j", "thing", "picture", "here", "kind", "text", "row"], b_law_k20⟩
/-! 143: _wall(k) -/
def B_wall_1 : Sxs := .cons (.pass) (.nil)
def b_wall : Sxs := .cons (.whl (.bl true) B_wall_1) (.nil)
def F_wall : Fd := ⟨"_wall", 1, ["k"], b_wall⟩
/-! 144: _law_label(cell) -/
def B_law_label_k21_1 : Sxs := .cons (.set 3 (.bin .add (.var 0) (.bin .mul (.int 47) (.var 2)))) (.cons (.set 4 (.tup (.cons (.call 43 (.cons (.var 3) (.nil))) (.cons (.call 32 (.cons (.var 3) (.cons (.bin .add (.int 2) (.bin .mul (.int 2) (.bin .mod (.var 2) (.int 3)))) (.nil)))) (.cons (.call 85 (.cons (.var 3) (.cons (.int 6) (.nil)))) (.nil)))))) (.cons (.set 5 (.sub (.var 4) (.call 4 (.cons (.var 3) (.cons (.int 9431) (.cons (.int 3) (.nil))))))) (.cons (.set 6 (.call 127 (.cons (.var 5) (.nil)))) (.cons (.set 1 (.bin .add (.var 1) (.tup (.cons (.tup (.cons (.sub (.var 6) (.call 4 (.cons (.var 3) (.cons (.int 9421) (.cons (.bc .len (.cons (.var 6) (.nil))) (.nil)))))) (.cons (.var 5) (.nil)))) (.nil))))) (.nil)))))
def b_law_label_k21 : Sxs := .cons (.set 1 (.tup (.nil))) (.cons (.for_ (.one 2) (.rng (.cons (.call 4 (.cons (.var 0) (.cons (.int 9433) (.cons (.int 5) (.nil))))) (.nil))) B_law_label_k21_1) (.cons (.ret (.var 1)) (.nil)))
def F_law_label_k21 : Fd := ⟨"_law_label", 1, ["cell", "gathered", "k", "seed", "some", "text", "kinds"], b_law_label_k21⟩
/-! 145: _law_said(here) -/
def b_law_said_k21 : Sxs := .cons (.tryw (.cons (.ret (.call 138 (.cons (.var 0) (.nil)))) (.nil)) 0 1) (.nil)
def F_law_said_k21 : Fd := ⟨"_law_said", 1, ["here", "e"], b_law_said_k21⟩
/-! 147: _law_said(kind, row) -/
def b_law_said_k22 : Sxs := .cons (.try2 (.cons (.ret (.call 104 (.cons (.var 0) (.cons (.var 1) (.nil))))) (.nil)) 3 (.cons (.ret (.non)) (.nil)) 0 (.cons (.ret (.str ⟨#[114, 101, 102, 117, 115, 101, 100]⟩)) (.nil))) (.nil)
def F_law_said_k22 : Fd := ⟨"_law_said", 2, ["kind", "row"], b_law_said_k22⟩
/-! 148: _law_once(script) -/
def B_law_once_1 : Sxs := .cons (.set 3 (.bin .add (.call 3 (.cons (.var 0) (.cons (.bin .mod (.var 2) (.int 9)) (.nil)))) (.bin .mul (.int 31) (.var 2)))) (.cons (.par [(10, false), (11, false)] (.cons (.call 32 (.cons (.var 3) (.cons (.bin .add (.int 2) (.bin .mul (.int 2) (.bin .mod (.var 2) (.int 2)))) (.nil)))) (.cons (.call 85 (.cons (.var 3) (.cons (.int 2) (.nil)))) (.nil)))) (.cons (.set 4 (.call 32 (.cons (.var 3) (.cons (.int 12) (.nil))))) (.cons (.set 5 (.lst (.cons (.tup (.cons (.str ⟨#[116, 104, 105, 114, 116, 101, 101, 110]⟩) (.cons (.var 4) (.cons (.call 38 (.cons (.var 4) (.nil))) (.nil))))) (.cons (.tup (.cons (.str ⟨#[112, 97, 105, 114]⟩) (.cons (.var 10) (.cons (.call 49 (.cons (.var 10) (.cons (.int 2) (.nil)))) (.nil))))) (.nil))))) (.cons (.set 5 (.bin .add (.var 5) (.lst (.cons (.tup (.cons (.str ⟨#[101, 108, 101, 118, 101, 110]⟩) (.cons (.var 11) (.cons (.call 64 (.cons (.call 80 (.cons (.var 11) (.nil))) (.nil))) (.nil))))) (.nil))))) (.cons (.unp [12, 11, 13] (.sub (.var 5) (.bin .mod (.var 2) (.int 3)))) (.cons (.set 6 (.call 6 (.cons (.var 13) (.nil)))) (.cons (.set 7 (.bin .add (.int 1) (.call 4 (.cons (.bin .add (.call 3 (.cons (.var 0) (.cons (.int 9) (.nil)))) (.var 2)) (.cons (.int 9403) (.cons (.bin .sub (.bc .len (.cons (.var 6) (.nil))) (.int 2)) (.nil))))))) (.cons (.set 8 (.call 21 (.cons (.bin .add (.bin .add (.sl (.var 6) .no (.some (.var 7))) (.ite (.cmp .eq (.sub (.var 6) (.var 7)) (.str ⟨#[35]⟩)) (.str ⟨#[46]⟩) (.str ⟨#[35]⟩))) (.sl (.var 6) (.some (.bin .add (.var 7) (.int 1))) .no)) (.nil)))) (.cons (.ite (.or (.cmp .notin (.var 8) (.call 100 (.cons (.var 13) (.nil)))) (.or (.cmp .notin (.var 13) (.call 100 (.cons (.var 8) (.nil)))) (.one (.cmp .ne (.bc .len (.cons (.call 100 (.cons (.var 13) (.nil))) (.nil))) (.bin .sub (.bc .len (.cons (.var 6) (.nil))) (.int 2)))))) (.cons (.ret (.bl false)) (.nil)) (.nil)) (.cons (.ite (.cmp .ne (.lc (.one 14) (.it (.call 100 (.cons (.var 13) (.nil)))) (.some (.or (.cmp .ne (.call 101 (.cons (.var 13) (.cons (.var 14) (.nil)))) (.int 1)) (.one (.cmp .ne (.call 11 (.cons (.var 14) (.nil))) (.call 11 (.cons (.var 13) (.nil))))))) (.var 14)) (.lst (.nil))) (.cons (.ret (.bl false)) (.nil)) (.nil)) (.cons (.set 9 (.call 147 (.cons (.var 12) (.cons (.var 13) (.nil))))) (.cons (.ite (.or (.cmp .ne (.sl (.var 9) .no (.some (.bc .len (.cons (.var 11) (.nil))))) (.var 11)) (.one (.and (.cmp .ne (.var 12) (.str ⟨#[101, 108, 101, 118, 101, 110]⟩)) (.one (.cmp .ne (.call 147 (.cons (.var 12) (.cons (.call 16 (.cons (.var 13) (.nil))) (.nil)))) (.var 9)))))) (.cons (.ret (.bl false)) (.nil)) (.nil)) (.cons (.ite (.cmp .eq (.call 147 (.cons (.var 12) (.cons (.var 8) (.nil)))) (.str ⟨#[114, 101, 102, 117, 115, 101, 100]⟩)) (.cons (.ret (.bl false)) (.nil)) (.nil)) (.cons (.ite (.or (.cmp .ne (.call 101 (.cons (.var 13) (.cons (.var 13) (.nil)))) (.int 0)) (.or (.cmp .ne (.call 101 (.cons (.var 8) (.cons (.var 13) (.nil)))) (.call 101 (.cons (.var 13) (.cons (.var 8) (.nil))))) (.one (.cmp .isnot (.call 101 (.cons (.var 13) (.cons (.bin .add (.var 13) (.tup (.cons (.int 1) (.cons (.int 1) (.nil))))) (.nil)))) (.non))))) (.cons (.ret (.bl false)) (.nil)) (.nil)) (.cons (.par [(14, false), (15, false)] (.cons (.call 58 (.cons (.call 4 (.cons (.var 3) (.cons (.int 9397) (.cons (.int 108) (.nil))))) (.nil))) (.cons (.call 58 (.cons (.call 4 (.cons (.bin .add (.call 3 (.cons (.var 0) (.cons (.int 9) (.nil)))) (.bin .mul (.int 3) (.var 2))) (.cons (.int 9391) (.cons (.int 108) (.nil))))) (.nil))) (.nil)))) (.cons (.ite (.and (.cmp .ne (.var 14) (.var 15)) (.one (.cmp .lt (.call 101 (.cons (.bin .add (.var 14) (.tup (.cons (.int 1) (.nil)))) (.cons (.bin .add (.var 15) (.tup (.cons (.int 1) (.nil)))) (.nil)))) (.var 1)))) (.cons (.ret (.bl false)) (.nil)) (.nil)) (.nil)))))))))))))))))
def b_law_once : Sxs := .cons (.set 1 (.call 102 (.nil))) (.cons (.for_ (.one 2) (.rng (.cons (.int 10) (.nil))) B_law_once_1) (.cons (.ret (.cmp .gt (.var 1) (.int 0))) (.nil)))
def F_law_once : Fd := ⟨"_law_once", 1, ["script", "least", "k", "cell", "first", "rows", "spots", "place", "near", "whole", "figures", "text", "kind", "row", "one", "other"], b_law_once⟩
/-! 149: law(script) -/
def b_law_k22 : Sxs := .cons (.ret (.and (.call 148 (.cons (.var 0) (.nil))) (.one (.call 148 (.cons (.lc (.one 1) (.it (.sls (.var 0) .no .no (-1))) .no (.bin .add (.var 1) (.int 1))) (.nil)))))) (.nil)
def F_law_k22 : Fd := ⟨"law", 1, ["script", "cell"], b_law_k22⟩
/-! 151: kinds_for(text) -/
def b_kinds_for_k23 : Sxs := .cons (.ret (.bc .tuple (.cons (.lc (.one 1) (.it (.con 28)) (.some (.cmp .isnot (.call 150 (.cons (.var 1) (.cons (.var 0) (.nil)))) (.non))) (.var 1)) (.nil)))) (.nil)
def F_kinds_for_k23 : Fd := ⟨"kinds_for", 1, ["text", "kind"], b_kinds_for_k23⟩
/-! 152: best(text) -/
def b_best_k23 : Sxs := .cons (.set 1 (.lc (.one 2) (.it (.call 151 (.cons (.var 0) (.nil)))) .no (.tup (.cons (.call 11 (.cons (.call 150 (.cons (.var 2) (.cons (.var 0) (.nil)))) (.nil))) (.cons (.mt .indexT (.con 28) (.cons (.var 2) (.nil))) (.nil)))))) (.cons (.ite (.not (.var 1)) (.cons (.raise 2) (.nil)) (.nil)) (.cons (.set 2 (.sub (.con 28) (.sub (.bc .min (.cons (.var 1) (.nil))) (.int 1)))) (.cons (.ret (.tup (.cons (.var 2) (.cons (.call 150 (.cons (.var 2) (.cons (.var 0) (.nil)))) (.nil))))) (.nil))))
def F_best_k23 : Fd := ⟨"best", 1, ["text", "some", "kind"], b_best_k23⟩
/-! 153: is_pair(thing) -/
def b_is_pair_k23 : Sxs := .cons (.ite (.or (.not (.bc .isi (.cons (.var 0) (.cons (.ty 3) (.nil))))) (.or (.cmp .ne (.bc .len (.cons (.var 0) (.nil))) (.int 2)) (.one (.not (.bc .all (.cons (.lc (.one 1) (.it (.var 0)) .no (.bc .isi (.cons (.var 1) (.cons (.ty 1) (.nil))))) (.nil))))))) (.cons (.ret (.bl false)) (.nil)) (.nil)) (.cons (.ret (.and (.cmp .isin (.sub (.var 0) (.int 0)) (.con 28)) (.one (.cmp .isin (.sub (.var 0) (.int 0)) (.call 151 (.cons (.sub (.var 0) (.int 1)) (.nil))))))) (.nil))
def F_is_pair_k23 : Fd := ⟨"is_pair", 1, ["thing", "one"], b_is_pair_k23⟩
/-! 154: is_label(thing) -/
def b_is_label_k23 : Sxs := .cons (.ret (.and (.bc .isi (.cons (.var 0) (.cons (.ty 3) (.nil)))) (.and (.cmp .le (.bc .len (.cons (.var 0) (.nil))) (.con 29)) (.one (.bc .all (.cons (.lc (.one 1) (.it (.var 0)) .no (.call 153 (.cons (.var 1) (.nil)))) (.nil))))))) (.nil)
def F_is_label_k23 : Fd := ⟨"is_label", 1, ["thing", "one"], b_is_label_k23⟩
/-! 155: label_picture(label) -/
def b_label_picture_k23 : Sxs := .cons (.ret (.mt .join (.str ⟨#[]⟩) (.cons (.lc (.tup [1, 2]) (.it (.var 0)) .no (.call 13 (.cons (.call 150 (.cons (.var 1) (.cons (.var 2) (.nil)))) (.cons (.con 30) (.nil))))) (.nil)))) (.nil)
def F_label_picture_k23 : Fd := ⟨"label_picture", 1, ["label", "kind", "text"], b_label_picture_k23⟩
/-! 156: read_label(text) -/
def b_read_label_k23 : Sxs := .cons (.set 1 (.lc (.one 3) (.it (.sl (.mt .split (.var 0) (.cons (.str ⟨#[10]⟩) (.nil))) .no (.some (.neg (.int 1))))) .no (.mt .partition (.var 3) (.cons (.str ⟨#[32]⟩) (.nil))))) (.cons (.set 2 (.bc .tuple (.cons (.lc (.tup [4, 5, 6]) (.it (.var 1)) .no (.tup (.cons (.var 4) (.cons (.var 6) (.nil))))) (.nil)))) (.cons (.ite (.or (.not (.call 154 (.cons (.var 2) (.nil)))) (.one (.cmp .ne (.call 137 (.cons (.var 2) (.nil))) (.var 0)))) (.cons (.raise 5) (.nil)) (.nil)) (.cons (.ret (.var 2)) (.nil))))
def F_read_label_k23 : Fd := ⟨"read_label", 1, ["text", "rows", "found", "row", "kind", "between", "rest"], b_read_label_k23⟩
/-! 159: _law_is_refused(picture) -/
def b_law_is_refused : Sxs := .cons (.tryi (.cons (.ex (.call 15 (.cons (.var 0) (.nil)))) (.nil)) 0 1 1) (.cons (.ret (.bl false)) (.nil))
def F_law_is_refused : Fd := ⟨"_law_is_refused", 1, ["picture", "e"], b_law_is_refused⟩
/-! 160: law(script) -/
def B_law_k25_1 : Sxs := .cons (.set 2 (.bin .add (.call 3 (.cons (.var 0) (.cons (.bin .mod (.var 1) (.int 9)) (.nil)))) (.bin .mul (.int 31) (.var 1)))) (.cons (.par [(6, false), (7, false)] (.cons (.call 5 (.cons (.var 2) (.cons (.int 12) (.cons (.int 9) (.nil))))) (.cons (.call 5 (.cons (.bin .add (.var 2) (.int 5)) (.cons (.int 12) (.cons (.int 9) (.nil))))) (.nil)))) (.cons (.unp [8, 9, 10] (.tup (.cons (.call 4 (.cons (.var 2) (.cons (.int 9413) (.cons (.int 21) (.nil))))) (.cons (.bin .add (.int 1) (.call 4 (.cons (.var 2) (.cons (.int 9403) (.cons (.int 9) (.nil)))))) (.cons (.bin .add (.int 1) (.call 4 (.cons (.var 2) (.cons (.int 9397) (.cons (.int 9) (.nil)))))) (.nil)))))) (.cons (.set 3 (.call 13 (.cons (.var 6) (.cons (.var 8) (.nil))))) (.cons (.ite (.or (.cmp .ne (.call 15 (.cons (.var 3) (.nil))) (.var 6)) (.or (.cmp .ne (.bc .len (.cons (.var 3) (.nil))) (.bin .add (.call 11 (.cons (.var 6) (.nil))) (.bin .mul (.int 2) (.var 8)))) (.one (.cmp .isnot (.call 1 (.cons (.var 6) (.nil))) (.bl true))))) (.cons (.ret (.bl false)) (.nil)) (.nil)) (.cons (.ite (.or (.cmp .ne (.call 13 (.cons (.call 16 (.cons (.var 6) (.nil))) (.cons (.var 8) (.nil)))) (.sls (.var 3) .no .no (-1))) (.one (.cmp .ne (.call 16 (.cons (.call 16 (.cons (.var 6) (.nil))) (.nil))) (.var 6)))) (.cons (.ret (.bl false)) (.nil)) (.nil)) (.cons (.ite (.cmp .ne (.call 15 (.cons (.bin .add (.str ⟨#[46, 46, 46]⟩) (.var 3)) (.nil))) (.var 6)) (.cons (.ret (.bl false)) (.nil)) (.nil)) (.cons (.unp [11, 12] (.tup (.cons (.call 18 (.cons (.var 6) (.nil))) (.cons (.call 19 (.cons (.var 6) (.nil))) (.nil))))) (.cons (.ite (.or (.cmp .ne (.bin .add (.bc .sum (.cons (.var 11) (.nil))) (.bc .sum (.cons (.var 12) (.nil)))) (.call 11 (.cons (.var 6) (.nil)))) (.or (.cmp .ne (.mt .countS (.var 3) (.cons (.str ⟨#[35]⟩) (.nil))) (.bc .sum (.cons (.var 11) (.nil)))) (.one (.cmp .ne (.bc .len (.cons (.var 11) (.nil))) (.bin .add (.bc .len (.cons (.var 12) (.nil))) (.int 1)))))) (.cons (.ret (.bl false)) (.nil)) (.nil)) (.cons (.ite (.cmp .ne (.lc (.one 13) (.rng (.cons (.bc .len (.cons (.var 6) (.nil))) (.nil))) .no (.ite (.cmp .eq (.bin .mod (.var 13) (.int 2)) (.int 0)) (.sub (.var 11) (.bin .fdiv (.var 13) (.int 2))) (.sub (.var 12) (.bin .fdiv (.var 13) (.int 2))))) (.bc .list (.cons (.var 6) (.nil)))) (.cons (.ret (.bl false)) (.nil)) (.nil)) (.cons (.set 4 (.call 17 (.cons (.var 6) (.cons (.var 9) (.nil))))) (.cons (.ite (.cmp .ne (.call 13 (.cons (.var 4) (.cons (.int 0) (.nil)))) (.mt .join (.str ⟨#[]⟩) (.cons (.lc (.one 14) (.it (.call 13 (.cons (.var 6) (.cons (.int 0) (.nil))))) .no (.bin .mul (.var 14) (.var 9))) (.nil)))) (.cons (.ret (.bl false)) (.nil)) (.nil)) (.cons (.ite (.cmp .ne (.call 11 (.cons (.var 4) (.nil))) (.bin .mul (.var 9) (.call 11 (.cons (.var 6) (.nil))))) (.cons (.ret (.bl false)) (.nil)) (.nil)) (.cons (.set 5 (.bin .add (.bin .add (.call 13 (.cons (.var 6) (.cons (.int 0) (.nil)))) (.bin .mul (.str ⟨#[46]⟩) (.var 10))) (.call 13 (.cons (.var 7) (.cons (.int 0) (.nil)))))) (.cons (.ite (.or (.cmp .ne (.call 15 (.cons (.var 5) (.nil))) (.bin .add (.bin .add (.var 6) (.tup (.cons (.var 10) (.nil)))) (.var 7))) (.one (.cmp .ne (.call 2 (.cons (.var 5) (.nil))) (.cmp .le (.bc .len (.cons (.var 5) (.nil))) (.int 600))))) (.cons (.ret (.bl false)) (.nil)) (.nil)) (.cons (.ite (.not (.call 159 (.cons (.bin .mul (.str ⟨#[46]⟩) (.var 8)) (.nil)))) (.cons (.ret (.bl false)) (.nil)) (.nil)) (.cons (.ite (.not (.call 159 (.cons (.str ⟨#[]⟩) (.nil)))) (.cons (.ret (.bl false)) (.nil)) (.nil)) (.nil)))))))))))))))))
def b_law_k25 : Sxs := .cons (.for_ (.one 1) (.rng (.cons (.int 12) (.nil))) B_law_k25_1) (.cons (.ret (.bl true)) (.nil))
def F_law_k25 : Fd := ⟨"law", 1, ["script", "k", "cell", "picture", "great", "both", "row", "other", "rim", "times", "gap", "mine", "yours", "n", "sign"], b_law_k25⟩
/-! 161: law(script) -/
def B_law_k26_1 : Sxs := .cons (.ite (.cmp .ne (.lack 28 (.sl (.var 5) .no (.some (.var 6))) ⟨#[63]⟩ (.sl (.var 5) (.some (.bin .add (.var 6) (.int 1))) .no)) (.sub (.var 5) (.var 6))) (.cons (.ret (.bl false)) (.nil)) (.nil)) (.cons (.set 12 (.sub (.str ⟨#[48, 49, 50, 51, 52, 53, 54, 55, 56, 57]⟩) (.bin .mod (.bin .add (.bin .add (.bc .int (.cons (.sub (.var 5) (.var 6)) (.nil))) (.int 1)) (.call 4 (.cons (.bin .add (.var 2) (.var 6)) (.cons (.int 9377) (.cons (.int 9) (.nil)))))) (.int 10)))) (.cons (.ite (.cmp .isnot (.call 27 (.cons (.bin .add (.bin .add (.sl (.var 5) .no (.some (.var 6))) (.var 12)) (.sl (.var 5) (.some (.bin .add (.var 6) (.int 1))) .no)) (.nil))) (.bl false)) (.cons (.ret (.bl false)) (.nil)) (.nil)) (.nil)))
def B_law_k26_2 : Sxs := .cons (.par [(14, false), (12, false)] (.cons (.sub (.var 5) (.var 6)) (.cons (.sub (.var 5) (.bin .add (.var 6) (.int 1))) (.nil)))) (.cons (.set 13 (.bin .add (.bin .add (.bin .add (.sl (.var 5) .no (.some (.var 6))) (.var 12)) (.var 14)) (.sl (.var 5) (.some (.bin .add (.var 6) (.int 2))) .no))) (.cons (.ite (.or (.cmp .ne (.cmp .isin (.var 6) (.var 7)) (.and (.cmp .ne (.var 14) (.var 12)) (.one (.call 27 (.cons (.var 13) (.nil)))))) (.one (.cmp .ne (.cmp .isin (.var 6) (.var 7)) (.cmp .eq (.bc .abs (.cons (.bin .sub (.bc .int (.cons (.var 14) (.nil))) (.bc .int (.cons (.var 12) (.nil)))) (.nil))) (.int 5))))) (.cons (.ret (.bl false)) (.nil)) (.nil)) (.nil)))
def B_law_k26_3 : Sxs := .cons (.set 2 (.bin .add (.call 3 (.cons (.var 0) (.cons (.bin .mod (.var 1) (.int 9)) (.nil)))) (.bin .mul (.int 37) (.var 1)))) (.cons (.set 3 (.call 32 (.cons (.var 2) (.cons (.bin .add (.int 1) (.call 4 (.cons (.var 2) (.cons (.int 9391) (.cons (.int 18) (.nil)))))) (.nil))))) (.cons (.set 4 (.call 26 (.cons (.var 3) (.nil)))) (.cons (.set 5 (.bin .add (.var 3) (.var 4))) (.cons (.ite (.or (.cmp .isnot (.call 27 (.cons (.var 5) (.nil))) (.bl true)) (.one (.cmp .ne (.call 26 (.cons (.bin .add (.str ⟨#[48, 48]⟩) (.var 3)) (.nil))) (.var 4)))) (.cons (.ret (.bl false)) (.nil)) (.nil)) (.cons (.ite (.cmp .ne (.lc (.one 14) (.it (.str ⟨#[48, 49, 50, 51, 52, 53, 54, 55, 56, 57]⟩)) (.some (.call 27 (.cons (.bin .add (.var 3) (.var 14)) (.nil)))) (.var 14)) (.lst (.cons (.var 4) (.nil)))) (.cons (.ret (.bl false)) (.nil)) (.nil)) (.cons (.for_ (.one 6) (.rng (.cons (.bc .len (.cons (.var 5) (.nil))) (.nil))) B_law_k26_1) (.cons (.set 7 (.call 30 (.cons (.var 5) (.nil)))) (.cons (.for_ (.one 6) (.rng (.cons (.bin .sub (.bc .len (.cons (.var 5) (.nil))) (.int 1)) (.nil))) B_law_k26_2) (.cons (.set 8 (.bc .tuple (.cons (.lc (.one 6) (.rng (.cons (.bin .add (.int 1) (.call 4 (.cons (.var 2) (.cons (.int 9349) (.cons (.int 9) (.nil)))))) (.nil))) .no (.call 4 (.cons (.bin .add (.var 2) (.bin .mul (.int 3) (.var 6))) (.cons (.int 9371) (.cons (.int 200) (.nil)))))) (.nil)))) (.cons (.set 9 (.bc .tuple (.cons (.lc (.one 6) (.rng (.cons (.bc .len (.cons (.var 8) (.nil))) (.nil))) .no (.call 4 (.cons (.bin .add (.var 2) (.bin .mul (.int 5) (.var 6))) (.cons (.int 9343) (.cons (.int 200) (.nil)))))) (.nil)))) (.cons (.set 10 (.bin .add (.int 2) (.call 4 (.cons (.var 2) (.cons (.int 9341) (.cons (.int 120) (.nil))))))) (.cons (.set 11 (.call 31 (.cons (.bc .tuple (.cons (.lc (.tup [14, 12]) (.zip (.var 8) (.var 9)) .no (.bin .add (.var 14) (.var 12))) (.nil))) (.cons (.var 10) (.nil))))) (.cons (.ite (.or (.cmp .ne (.var 11) (.bin .mod (.bin .add (.call 31 (.cons (.var 8) (.cons (.var 10) (.nil)))) (.call 31 (.cons (.var 9) (.cons (.var 10) (.nil))))) (.var 10))) (.one (.not (.chn .le .lt (.int 0) (.var 11) (.var 10))))) (.cons (.ret (.bl false)) (.nil)) (.nil)) (.cons (.ite (.cmp .ne (.call 31 (.cons (.sl (.var 8) .no (.some (.int 1))) (.cons (.var 10) (.nil)))) (.bin .mod (.sub (.var 8) (.int 0)) (.var 10))) (.cons (.ret (.bl false)) (.nil)) (.nil)) (.cons (.ite (.cmp .ne (.call 31 (.cons (.bin .add (.var 8) (.tup (.cons (.int 1) (.nil)))) (.cons (.var 10) (.nil)))) (.bin .mod (.bin .add (.call 31 (.cons (.var 8) (.cons (.var 10) (.nil)))) (.bc .len (.cons (.var 8) (.nil)))) (.var 10))) (.cons (.ret (.bl false)) (.nil)) (.nil)) (.nil))))))))))))))))
def b_law_k26 : Sxs := .cons (.for_ (.one 1) (.rng (.cons (.int 14) (.nil))) B_law_k26_3) (.cons (.ret (.bl true)) (.nil))
def F_law_k26 : Fd := ⟨"law", 1, ["script", "k", "cell", "figures", "check", "whole", "n", "quiet", "values", "others", "by", "both", "other", "about", "one"], b_law_k26⟩
/-! 162: law(script) -/
def B_law_k27_1 : Sxs := .cons (.set 8 (.bin .add (.var 8) (.sl (.call 49 (.cons (.sl (.var 4) (.some (.var 9)) (.some (.bin .add (.var 9) (.int 2)))) (.cons (.var 5) (.nil)))) (.some (.int 4)) (.some (.neg (.int 3)))))) (.nil)
def B_law_k27_2 : Sxs := .cons (.set 7 (.call 49 (.cons (.var 4) (.cons (.var 5) (.nil))))) (.cons (.set 8 (.tup (.nil))) (.cons (.for_ (.one 9) (.rng (.cons (.int 0) (.cons (.var 3) (.cons (.int 2) (.nil))))) B_law_k27_1) (.cons (.ite (.or (.cmp .ne (.var 7) (.bin .add (.bin .add (.tup (.cons (.int 1) (.cons (.int 1) (.cons (.int 1) (.cons (.int 1) (.nil)))))) (.var 8)) (.tup (.cons (.var 5) (.cons (.int 1) (.cons (.int 1) (.nil))))))) (.one (.cmp .ne (.call 11 (.cons (.var 7) (.nil))) (.bin .add (.bin .add (.int 6) (.var 5)) (.bin .mul (.var 3) (.bin .add (.int 3) (.bin .mul (.int 2) (.var 5)))))))) (.cons (.ret (.bl false)) (.nil)) (.nil)) (.cons (.ite (.or (.cmp .ne (.call 52 (.cons (.var 7) (.nil))) (.var 4)) (.or (.cmp .ne (.call 52 (.cons (.call 16 (.cons (.var 7) (.nil))) (.nil))) (.var 4)) (.one (.cmp .ne (.bc .len (.cons (.var 7) (.nil))) (.bin .add (.int 7) (.bin .mul (.int 5) (.var 3))))))) (.cons (.ret (.bl false)) (.nil)) (.nil)) (.cons (.ite (.or (.cmp .ne (.lc (.one 10) (.it (.var 7)) (.some (.cmp .notin (.var 10) (.tup (.cons (.int 1) (.cons (.var 5) (.nil)))))) (.var 10)) (.lst (.nil))) (.one (.cmp .ne (.mt .countL (.bc .list (.cons (.var 7) (.nil))) (.cons (.var 5) (.nil))) (.bin .add (.bin .mul (.int 2) (.var 3)) (.int 1))))) (.cons (.ret (.bl false)) (.nil)) (.nil)) (.nil))))))
def B_law_k27_3 : Sxs := .cons (.set 2 (.bin .add (.call 3 (.cons (.var 0) (.cons (.bin .mod (.var 1) (.int 9)) (.nil)))) (.bin .mul (.int 41) (.var 1)))) (.cons (.set 3 (.bin .add (.int 2) (.bin .mul (.int 2) (.call 4 (.cons (.var 2) (.cons (.int 9337) (.cons (.int 10) (.nil)))))))) (.cons (.set 4 (.call 32 (.cons (.var 2) (.cons (.var 3) (.nil))))) (.cons (.for_ (.one 5) (.it (.tup (.cons (.int 2) (.cons (.int 3) (.nil))))) B_law_k27_2) (.cons (.set 6 (.call 32 (.cons (.bin .add (.var 2) (.int 3)) (.cons (.int 12) (.nil))))) (.cons (.set 7 (.call 38 (.cons (.var 6) (.nil)))) (.cons (.ite (.or (.cmp .ne (.call 38 (.cons (.bin .add (.var 6) (.call 26 (.cons (.var 6) (.nil)))) (.nil))) (.var 7)) (.one (.cmp .ne (.call 42 (.cons (.var 7) (.nil))) (.bin .add (.var 6) (.call 26 (.cons (.var 6) (.nil))))))) (.cons (.ret (.bl false)) (.nil)) (.nil)) (.cons (.ite (.or (.cmp .ne (.call 42 (.cons (.call 16 (.cons (.var 7) (.nil))) (.nil))) (.bin .add (.var 6) (.call 26 (.cons (.var 6) (.nil))))) (.or (.cmp .ne (.bc .len (.cons (.var 7) (.nil))) (.int 59)) (.one (.cmp .ne (.call 11 (.cons (.var 7) (.nil))) (.int 95))))) (.cons (.ret (.bl false)) (.nil)) (.nil)) (.cons (.ite (.or (.cmp .ne (.sl (.var 7) .no (.some (.int 3))) (.tup (.cons (.int 1) (.cons (.int 1) (.cons (.int 1) (.nil)))))) (.or (.cmp .ne (.sl (.var 7) (.some (.neg (.int 3))) .no) (.tup (.cons (.int 1) (.cons (.int 1) (.cons (.int 1) (.nil)))))) (.one (.cmp .ne (.sl (.var 7) (.some (.int 27)) (.some (.int 32))) (.tup (.cons (.int 1) (.cons (.int 1) (.cons (.int 1) (.cons (.int 1) (.cons (.int 1) (.nil))))))))))) (.cons (.ret (.bl false)) (.nil)) (.nil)) (.cons (.ite (.cmp .ne (.lc (.one 9) (.it (.bin .add (.lrng (.cons (.int 3) (.cons (.int 27) (.cons (.int 4) (.nil))))) (.lrng (.cons (.int 32) (.cons (.int 56) (.cons (.int 4) (.nil))))))) .no (.bc .sum (.cons (.sl (.var 7) (.some (.var 9)) (.some (.bin .add (.var 9) (.int 4)))) (.nil)))) (.bin .mul (.lst (.cons (.int 7) (.nil))) (.int 12))) (.cons (.ret (.bl false)) (.nil)) (.nil)) (.nil))))))))))
def b_law_k27 : Sxs := .cons (.for_ (.one 1) (.rng (.cons (.int 10) (.nil))) B_law_k27_3) (.cons (.ret (.bl true)) (.nil))
def F_law_k27 : Fd := ⟨"law", 1, ["script", "k", "cell", "many", "figures", "wide", "twelve", "row", "inner", "n", "width"], b_law_k27⟩
/-! 163: law(script) -/
def B_law_k28_1 : Sxs := .cons (.ite (.or (.cmp .ne (.call 63 (.cons (.tup (.cons (.var 8) (.nil))) (.nil))) (.str ⟨#[]⟩)) (.one (.cmp .ne (.call 63 (.cons (.tup (.cons (.var 8) (.cons (.var 9) (.cons (.int 27) (.nil))))) (.nil))) (.var 10)))) (.cons (.ret (.bl false)) (.nil)) (.nil)) (.nil)
def B_law_k28_2 : Sxs := .cons (.set 3 (.call 70 (.cons (.bin .add (.call 3 (.cons (.var 0) (.cons (.bin .mod (.var 2) (.int 9)) (.nil)))) (.bin .mul (.int 43) (.var 2))) (.nil)))) (.cons (.set 4 (.call 64 (.cons (.var 3) (.nil)))) (.cons (.ite (.or (.cmp .ne (.call 11 (.cons (.var 4) (.nil))) (.bin .add (.bin .mul (.int 11) (.bin .add (.bc .len (.cons (.var 3) (.nil))) (.int 2))) (.int 2))) (.or (.cmp .ne (.bc .len (.cons (.var 4) (.nil))) (.bin .add (.bin .mul (.int 6) (.bin .add (.bc .len (.cons (.var 3) (.nil))) (.int 2))) (.int 1))) (.one (.cmp .ne (.sub (.var 4) (.neg (.int 1))) (.int 2))))) (.cons (.ret (.bl false)) (.nil)) (.nil)) (.cons (.set 5 (.bc .tuple (.cons (.lc (.one 12) (.rng (.cons (.int 0) (.cons (.bin .sub (.bc .len (.cons (.var 4) (.nil))) (.int 1)) (.cons (.int 6) (.nil))))) .no (.call 60 (.cons (.sl (.var 4) (.some (.var 12)) (.some (.bin .add (.var 12) (.int 6)))) (.nil)))) (.nil)))) (.cons (.ite (.cmp .ne (.var 5) (.bin .add (.var 3) (.tup (.cons (.call 31 (.cons (.var 3) (.cons (.int 103) (.nil)))) (.cons (.int 107) (.nil)))))) (.cons (.ret (.bl false)) (.nil)) (.nil)) (.cons (.ite (.or (.cmp .ne (.call 66 (.cons (.var 4) (.nil))) (.var 3)) (.one (.cmp .ne (.call 66 (.cons (.call 16 (.cons (.var 4) (.nil))) (.nil))) (.var 3)))) (.cons (.ret (.bl false)) (.nil)) (.nil)) (.cons (.set 6 (.call 63 (.cons (.var 3) (.nil)))) (.cons (.for_ (.tup [8, 9, 10]) (.it (.tup (.cons (.tup (.cons (.int 104) (.cons (.int 102) (.cons (.str ⟨#[50, 55]⟩) (.nil))))) (.cons (.tup (.cons (.int 105) (.cons (.int 102) (.cons (.str ⟨#[50, 55]⟩) (.nil))))) (.cons (.tup (.cons (.int 106) (.cons (.int 100) (.cons (.str ⟨#[48]⟩) (.nil))))) (.nil)))))) B_law_k28_1) (.cons (.ite (.or (.cmp .gt (.bc .len (.cons (.var 6) (.nil))) (.bin .mul (.int 2) (.bc .len (.cons (.var 3) (.nil))))) (.or (.cmp .ne (.call 63 (.cons (.tup (.cons (.int 106) (.cons (.int 7) (.cons (.int 99) (.nil))))) (.nil))) (.str ⟨#[48, 55, 57, 57]⟩)) (.one (.cmp .ne (.call 63 (.cons (.tup (.cons (.int 104) (.cons (.int 103) (.cons (.int 0) (.cons (.int 1) (.nil)))))) (.nil))) (.str ⟨#[65, 98]⟩))))) (.cons (.ret (.bl false)) (.nil)) (.nil)) (.nil)))))))))
def b_law_k28 : Sxs := .cons (.set 1 (.lc (.one 7) (.rng (.cons (.int 108) (.nil))) .no (.call 58 (.cons (.var 7) (.nil))))) (.cons (.ite (.or (.cmp .ne (.var 1) (.bc .sorted (.cons (.var 1) (.nil)))) (.one (.cmp .ne (.lc (.one 11) (.it (.var 1)) .no (.call 60 (.cons (.var 11) (.nil)))) (.lrng (.cons (.int 108) (.nil)))))) (.cons (.ret (.bl false)) (.nil)) (.nil)) (.cons (.ite (.cmp .ne (.lc (.one 11) (.it (.var 1)) (.some (.or (.cmp .ne (.bc .sum (.cons (.var 11) (.nil))) (.int 11)) (.or (.cmp .ne (.bin .mod (.bc .sum (.cons (.sls (.var 11) (.some (.int 0)) .no (2)) (.nil))) (.int 2)) (.int 0)) (.or (.cmp .lt (.bc .min (.cons (.var 11) (.nil))) (.int 1)) (.one (.cmp .gt (.bc .max (.cons (.var 11) (.nil))) (.int 4))))))) (.var 11)) (.lst (.nil))) (.cons (.ret (.bl false)) (.nil)) (.nil)) (.cons (.for_ (.one 2) (.rng (.cons (.int 10) (.nil))) B_law_k28_2) (.cons (.ret (.bl true)) (.nil)))))
def F_law_k28 : Fd := ⟨"law", 1, ["script", "signs", "k", "numbers", "row", "told", "text", "number", "first", "lead", "due", "sign", "n"], b_law_k28⟩
/-! 164: _law_mended(row) -/
def b_law_mended : Sxs := .cons (.try2 (.cons (.ret (.call 104 (.cons (.str ⟨#[112, 97, 105, 114]⟩) (.cons (.var 0) (.nil))))) (.nil)) 3 (.cons (.ret (.str ⟨#[100, 111, 117, 98, 116, 102, 117, 108]⟩)) (.nil)) 2 (.cons (.ret (.str ⟨#[110, 111, 110, 101]⟩)) (.nil))) (.nil)
def F_law_mended : Fd := ⟨"_law_mended", 1, ["row"], b_law_mended⟩
/-! 165: _law_is_code(row) -/
def b_law_is_code : Sxs := .cons (.tryo (.cons (.ex (.call 52 (.cons (.var 0) (.nil)))) (.nil)) 2 (.cons (.ret (.bl false)) (.nil))) (.cons (.ret (.bl true)) (.nil))
def F_law_is_code : Fd := ⟨"_law_is_code", 1, ["row"], b_law_is_code⟩
/-! 167: law(script) -/
def B_law_k30_1 : Sxs := .cons (.set 13 (.call 11 (.cons (.call 15 (.cons (.sub (.mt .split (.sl (.sl (.var 9) (.some (.sub (.var 11) (.int 0))) .no) .no (.some (.bc .len (.cons (.var 9) (.nil))))) (.cons (.bin .mul (.str ⟨#[46]⟩) (.int 10)) (.nil))) (.int 0)) (.nil))) (.nil)))) (.cons (.ite (.cmp .ne (.sub (.var 12) (.int 0)) (.bin .sub (.bin .sub (.bc .len (.cons (.var 9) (.nil))) (.sub (.var 11) (.int 0))) (.var 13))) (.cons (.ret (.bl false)) (.nil)) (.nil)) (.nil))
def B_law_k30_2 : Sxs := .cons (.set 2 (.bin .add (.call 3 (.cons (.var 0) (.cons (.var 1) (.nil)))) (.bin .mul (.int 53) (.var 1)))) (.cons (.par [(7, false), (8, false)] (.cons (.sl (.call 139 (.cons (.var 2) (.nil))) .no (.some (.int 3))) (.cons (.sl (.call 139 (.cons (.bin .add (.var 2) (.int 9)) (.nil))) .no (.some (.int 2))) (.nil)))) (.cons (.ite (.or (.cmp .isnot (.call 135 (.cons (.var 7) (.nil))) (.bl true)) (.one (.cmp .isnot (.call 135 (.cons (.bin .add (.var 7) (.var 8)) (.nil))) (.bl true)))) (.cons (.ret (.bl false)) (.nil)) (.nil)) (.cons (.unp [9, 10] (.tup (.cons (.call 136 (.cons (.var 7) (.nil))) (.cons (.call 112 (.cons (.call 136 (.cons (.var 7) (.nil))) (.nil))) (.nil))))) (.cons (.ite (.or (.cmp .ne (.bc .tuple (.cons (.lc (.one 11) (.it (.var 10)) .no (.sl (.var 11) (.some (.int 1)) (.some (.int 3)))) (.nil))) (.var 7)) (.one (.cmp .ne (.lc (.one 11) (.it (.var 10)) (.some (.sub (.var 11) (.int 3))) (.var 11)) (.lst (.nil))))) (.cons (.ret (.bl false)) (.nil)) (.nil)) (.cons (.set 3 (.call 4 (.cons (.var 2) (.cons (.int 9283) (.cons (.int 30) (.nil)))))) (.cons (.set 4 (.bc .tuple (.cons (.lc (.one 11) (.it (.var 10)) .no (.bin .add (.tup (.cons (.bin .add (.sub (.var 11) (.int 0)) (.var 3)) (.nil))) (.sl (.var 11) (.some (.int 1)) .no))) (.nil)))) (.cons (.ite (.cmp .ne (.call 112 (.cons (.bin .add (.bin .add (.bin .mul (.str ⟨#[46]⟩) (.var 3)) (.var 9)) (.bin .mul (.str ⟨#[46, 46]⟩) (.var 3))) (.nil))) (.var 4)) (.cons (.ret (.bl false)) (.nil)) (.nil)) (.cons (.ite (.cmp .ne (.call 136 (.cons (.bin .add (.var 7) (.var 8)) (.nil))) (.bin .add (.var 9) (.call 136 (.cons (.var 8) (.nil))))) (.cons (.ret (.bl false)) (.nil)) (.nil)) (.cons (.set 5 (.bc .tuple (.cons (.lc (.one 11) (.it (.call 112 (.cons (.call 136 (.cons (.var 8) (.nil))) (.nil)))) .no (.bin .add (.tup (.cons (.bin .add (.sub (.var 11) (.int 0)) (.bc .len (.cons (.var 9) (.nil)))) (.nil))) (.sl (.var 11) (.some (.int 1)) .no))) (.nil)))) (.cons (.ite (.cmp .ne (.call 112 (.cons (.bin .add (.var 9) (.call 136 (.cons (.var 8) (.nil)))) (.nil))) (.bin .add (.var 10) (.var 5))) (.cons (.ret (.bl false)) (.nil)) (.nil)) (.cons (.set 6 (.call 112 (.cons (.sls (.var 9) .no .no (-1)) (.nil)))) (.cons (.ite (.cmp .ne (.lc (.one 11) (.it (.var 6)) .no (.sl (.var 11) (.some (.int 1)) (.some (.int 3)))) (.sls (.lc (.one 11) (.it (.var 10)) .no (.sl (.var 11) (.some (.int 1)) (.some (.int 3)))) .no .no (-1))) (.cons (.ret (.bl false)) (.nil)) (.nil)) (.cons (.for_ (.tup [11, 12]) (.zip (.var 10) (.sls (.var 6) .no .no (-1))) B_law_k30_1) (.cons (.ite (.or (.cmp .ne (.call 112 (.cons (.bin .mul (.str ⟨#[46]⟩) (.int 40)) (.nil))) (.tup (.nil))) (.one (.cmp .ne (.call 112 (.cons (.str ⟨#[]⟩) (.nil))) (.tup (.nil))))) (.cons (.ret (.bl false)) (.nil)) (.nil)) (.nil)))))))))))))))
def b_law_k30 : Sxs := .cons (.for_ (.one 1) (.rng (.cons (.int 6) (.nil))) B_law_k30_2) (.cons (.ret (.bl true)) (.nil))
def F_law_k30 : Fd := ⟨"law", 1, ["script", "k", "cell", "more", "later", "behind", "back", "label", "other", "picture", "told", "one", "again", "wide"], b_law_k30⟩
/-! 169: _law_pieces(picture, cell) -/
def B_law_pieces_1 : Sxs := .cons (.set 4 (.bin .add (.bin .add (.var 3) (.int 1)) (.call 4 (.cons (.bin .add (.var 1) (.var 3)) (.cons (.int 9281) (.cons (.int 70) (.nil))))))) (.cons (.app 2 (.sl (.var 0) (.some (.var 3)) (.some (.var 4)))) (.cons (.set 3 (.var 4)) (.nil)))
def b_law_pieces : Sxs := .cons (.par [(2, true), (3, false)] (.cons (.lst (.nil)) (.cons (.int 0) (.nil)))) (.cons (.whl (.cmp .lt (.var 3) (.bc .len (.cons (.var 0) (.nil)))) B_law_pieces_1) (.cons (.frz 2) (.cons (.ret (.var 2)) (.nil))))
def F_law_pieces : Fd := ⟨"_law_pieces", 2, ["picture", "cell", "pieces", "place", "end"], b_law_pieces⟩
def U : Pt where
  consts := [(0, ("MOST_LONG", C_MOST_LONG)), (1, ("MOST_WIDE", C_MOST_WIDE)), (2, ("MOST_SPOTS", C_MOST_SPOTS)), (3, ("FIGURES", C_FIGURES)), (4, ("ODD", C_ODD)), (5, ("MANNERS", C_MANNERS)), (6, ("SIDE", C_SIDE)), (7, ("MIDDLE", C_MIDDLE)), (8, ("WIDTHS", C_WIDTHS)), (9, ("FIVES", C_FIVES)), (10, ("FRONT", C_FRONT)), (11, ("MOST_FIGURES", C_MOST_FIGURES)), (12, ("WIDES", C_WIDES)), (13, ("SMALL", C_SMALL)), (14, ("GREAT", C_GREAT)), (15, ("SETS", C_SETS)), (16, ("LEADS", C_LEADS)), (17, ("SHIFT", C_SHIFT)), (18, ("BEGINS", C_BEGINS)), (19, ("END", C_END)), (20, ("LAST", C_LAST)), (21, ("BY", C_BY)), (22, ("SIGNS", C_SIGNS)), (23, ("MOST_SIGNS", C_MOST_SIGNS)), (24, ("THIRTEEN_SPOTS", C_THIRTEEN_SPOTS)), (25, ("RIMS", C_RIMS)), (26, ("LEAST_RIM", C_LEAST_RIM)), (27, ("SURE", C_SURE)), (28, ("KINDS", C_KINDS)), (29, ("MOST_CODES", C_MOST_CODES)), (30, ("RIM", C_RIM))]
  funs := [(0, F_is_whole), (1, F_is_row), (2, F_is_picture), (3, F_law_cell), (4, F_law_mix), (5, F_law_row), (6, F_law_spots), (7, F_law_odd), (8, F_law_is_row), (9, F_law_is_picture), (10, F_law), (11, F_total), (12, F_spots_of), (13, F_picture_of), (14, F_runs), (15, F_row_of), (16, F_turned), (17, F_wider), (18, F_bars), (19, F_gaps), (20, F_law_same), (21, F_law_runs), (23, F_law_said), (24, F_law_k02), (25, F_weighed), (26, F_check_of), (27, F_fits), (28, F_lacking), (29, F_exchanged), (30, F_silent), (31, F_mod_check), (32, F_law_figures), (33, F_law_sum), (34, F_law_check), (36, F_law_k04), (37, F_are_figures), (38, F_thirteen_row), (39, F_fours), (40, F_left_figures), (41, F_straight_thirteen), (42, F_thirteen_of), (43, F_law_thirteen), (44, F_law_thirteen_row), (45, F_law_said_k05), (46, F_law_read), (47, F_law_k05), (48, F_width_of), (49, F_pair_row), (50, F_figure_in), (51, F_straight_pair), (52, F_pair_of), (53, F_law_pair_row), (54, F_law_said_k06), (55, F_law_read_k06), (56, F_law_k06), (57, F_must), (58, F_sign_of), (59, F_is_sign), (60, F_number_of), (61, F_meant), (62, F_other_set), (63, F_text_of), (64, F_eleven_row), (65, F_straight_numbers), (66, F_eleven_numbers), (67, F_law_signs), (68, F_law_tells), (69, F_law_eleven_row), (70, F_law_numbers), (71, F_law_said_k07), (72, F_law_read_k07), (73, F_law_k07), (74, F_law_read_k08), (75, F_law_reads), (76, F_law_are_signs), (77, F_law_k08), (78, F_heads), (79, F_is_better), (80, F_shortest), (81, F_how_long), (82, F_eleven_of), (84, F_law_further), (85, F_law_signs_text), (86, F_law_said_k09), (87, F_law_k09), (88, F_law_other_case), (89, F_law_k10), (90, F_far), (91, F_snapped), (92, F_is_near), (93, F_law_parts), (94, F_law_k11), (95, F_told_by), (96, F_fitted), (97, F_law_read_k12), (98, F_law_due), (99, F_law_k12), (100, F_near_rows), (101, F_apart), (102, F_least_apart), (103, F_law_k13), (105, F_law_said_k14), (107, F_law_spoiled), (108, F_law_k14), (109, F_straight), (110, F_told_in), (111, F_stretches), (112, F_found), (113, F_law_read_k15), (114, F_law_scan), (115, F_law_code), (116, F_law_picture), (117, F_law_k15), (118, F_law_end), (119, F_law_k16), (120, F_end_of), (122, F_law_end_k17), (125, F_told_by_k19), (127, F_kinds_for), (128, F_best), (129, F_power_of_ten), (130, F_many_texts), (131, F_law_said_k19), (132, F_law_rows), (133, F_law_k19), (134, F_is_pair), (135, F_is_label), (136, F_label_picture), (137, F_label_text), (138, F_read_label), (139, F_law_label), (140, F_law_is_label), (141, F_law_read_k20), (142, F_law_k20), (143, F_wall), (144, F_law_label_k21), (145, F_law_said_k21), (147, F_law_said_k22), (148, F_law_once), (149, F_law_k22), (151, F_kinds_for_k23), (152, F_best_k23), (153, F_is_pair_k23), (154, F_is_label_k23), (155, F_label_picture_k23), (156, F_read_label_k23), (159, F_law_is_refused), (160, F_law_k25), (161, F_law_k26), (162, F_law_k27), (163, F_law_k28), (164, F_law_mended), (165, F_law_is_code), (167, F_law_k30), (169, F_law_pieces)]
  excs := [(0, "BarError"), (1, "NoRow"), (2, "NoCode"), (3, "Doubtful"), (4, "Closed"), (5, "NoText")]
theorem con_MOST_LONG : U.con 0 = some (("MOST_LONG" : Str), C_MOST_LONG) := rfl
theorem con_MOST_WIDE : U.con 1 = some (("MOST_WIDE" : Str), C_MOST_WIDE) := rfl
theorem con_MOST_SPOTS : U.con 2 = some (("MOST_SPOTS" : Str), C_MOST_SPOTS) := rfl
theorem con_FIGURES : U.con 3 = some (("FIGURES" : Str), C_FIGURES) := rfl
theorem con_ODD : U.con 4 = some (("ODD" : Str), C_ODD) := rfl
theorem con_MANNERS : U.con 5 = some (("MANNERS" : Str), C_MANNERS) := rfl
theorem con_SIDE : U.con 6 = some (("SIDE" : Str), C_SIDE) := rfl
theorem con_MIDDLE : U.con 7 = some (("MIDDLE" : Str), C_MIDDLE) := rfl
theorem con_WIDTHS : U.con 8 = some (("WIDTHS" : Str), C_WIDTHS) := rfl
theorem con_FIVES : U.con 9 = some (("FIVES" : Str), C_FIVES) := rfl
theorem con_FRONT : U.con 10 = some (("FRONT" : Str), C_FRONT) := rfl
theorem con_MOST_FIGURES : U.con 11 = some (("MOST_FIGURES" : Str), C_MOST_FIGURES) := rfl
theorem con_WIDES : U.con 12 = some (("WIDES" : Str), C_WIDES) := rfl
theorem con_SMALL : U.con 13 = some (("SMALL" : Str), C_SMALL) := rfl
theorem con_GREAT : U.con 14 = some (("GREAT" : Str), C_GREAT) := rfl
theorem con_SETS : U.con 15 = some (("SETS" : Str), C_SETS) := rfl
theorem con_LEADS : U.con 16 = some (("LEADS" : Str), C_LEADS) := rfl
theorem con_SHIFT : U.con 17 = some (("SHIFT" : Str), C_SHIFT) := rfl
theorem con_BEGINS : U.con 18 = some (("BEGINS" : Str), C_BEGINS) := rfl
theorem con_END : U.con 19 = some (("END" : Str), C_END) := rfl
theorem con_LAST : U.con 20 = some (("LAST" : Str), C_LAST) := rfl
theorem con_BY : U.con 21 = some (("BY" : Str), C_BY) := rfl
theorem con_SIGNS : U.con 22 = some (("SIGNS" : Str), C_SIGNS) := rfl
theorem con_MOST_SIGNS : U.con 23 = some (("MOST_SIGNS" : Str), C_MOST_SIGNS) := rfl
theorem con_THIRTEEN_SPOTS : U.con 24 = some (("THIRTEEN_SPOTS" : Str), C_THIRTEEN_SPOTS) := rfl
theorem con_RIMS : U.con 25 = some (("RIMS" : Str), C_RIMS) := rfl
theorem con_LEAST_RIM : U.con 26 = some (("LEAST_RIM" : Str), C_LEAST_RIM) := rfl
theorem con_SURE : U.con 27 = some (("SURE" : Str), C_SURE) := rfl
theorem con_KINDS : U.con 28 = some (("KINDS" : Str), C_KINDS) := rfl
theorem con_MOST_CODES : U.con 29 = some (("MOST_CODES" : Str), C_MOST_CODES) := rfl
theorem con_RIM : U.con 30 = some (("RIM" : Str), C_RIM) := rfl
theorem fn_is_whole : U.fn 0 = some F_is_whole := rfl
theorem fn_is_row : U.fn 1 = some F_is_row := rfl
theorem fn_is_picture : U.fn 2 = some F_is_picture := rfl
theorem fn_law_cell : U.fn 3 = some F_law_cell := rfl
theorem fn_law_mix : U.fn 4 = some F_law_mix := rfl
theorem fn_law_row : U.fn 5 = some F_law_row := rfl
theorem fn_law_spots : U.fn 6 = some F_law_spots := rfl
theorem fn_law_odd : U.fn 7 = some F_law_odd := rfl
theorem fn_law_is_row : U.fn 8 = some F_law_is_row := rfl
theorem fn_law_is_picture : U.fn 9 = some F_law_is_picture := rfl
theorem fn_law : U.fn 10 = some F_law := rfl
theorem fn_total : U.fn 11 = some F_total := rfl
theorem fn_spots_of : U.fn 12 = some F_spots_of := rfl
theorem fn_picture_of : U.fn 13 = some F_picture_of := rfl
theorem fn_runs : U.fn 14 = some F_runs := rfl
theorem fn_row_of : U.fn 15 = some F_row_of := rfl
theorem fn_turned : U.fn 16 = some F_turned := rfl
theorem fn_wider : U.fn 17 = some F_wider := rfl
theorem fn_bars : U.fn 18 = some F_bars := rfl
theorem fn_gaps : U.fn 19 = some F_gaps := rfl
theorem fn_law_same : U.fn 20 = some F_law_same := rfl
theorem fn_law_runs : U.fn 21 = some F_law_runs := rfl
theorem fn_law_said : U.fn 23 = some F_law_said := rfl
theorem fn_law_k02 : U.fn 24 = some F_law_k02 := rfl
theorem fn_weighed : U.fn 25 = some F_weighed := rfl
theorem fn_check_of : U.fn 26 = some F_check_of := rfl
theorem fn_fits : U.fn 27 = some F_fits := rfl
theorem fn_lacking : U.fn 28 = some F_lacking := rfl
theorem fn_exchanged : U.fn 29 = some F_exchanged := rfl
theorem fn_silent : U.fn 30 = some F_silent := rfl
theorem fn_mod_check : U.fn 31 = some F_mod_check := rfl
theorem fn_law_figures : U.fn 32 = some F_law_figures := rfl
theorem fn_law_sum : U.fn 33 = some F_law_sum := rfl
theorem fn_law_check : U.fn 34 = some F_law_check := rfl
theorem fn_law_k04 : U.fn 36 = some F_law_k04 := rfl
theorem fn_are_figures : U.fn 37 = some F_are_figures := rfl
theorem fn_thirteen_row : U.fn 38 = some F_thirteen_row := rfl
theorem fn_fours : U.fn 39 = some F_fours := rfl
theorem fn_left_figures : U.fn 40 = some F_left_figures := rfl
theorem fn_straight_thirteen : U.fn 41 = some F_straight_thirteen := rfl
theorem fn_thirteen_of : U.fn 42 = some F_thirteen_of := rfl
theorem fn_law_thirteen : U.fn 43 = some F_law_thirteen := rfl
theorem fn_law_thirteen_row : U.fn 44 = some F_law_thirteen_row := rfl
theorem fn_law_said_k05 : U.fn 45 = some F_law_said_k05 := rfl
theorem fn_law_read : U.fn 46 = some F_law_read := rfl
theorem fn_law_k05 : U.fn 47 = some F_law_k05 := rfl
theorem fn_width_of : U.fn 48 = some F_width_of := rfl
theorem fn_pair_row : U.fn 49 = some F_pair_row := rfl
theorem fn_figure_in : U.fn 50 = some F_figure_in := rfl
theorem fn_straight_pair : U.fn 51 = some F_straight_pair := rfl
theorem fn_pair_of : U.fn 52 = some F_pair_of := rfl
theorem fn_law_pair_row : U.fn 53 = some F_law_pair_row := rfl
theorem fn_law_said_k06 : U.fn 54 = some F_law_said_k06 := rfl
theorem fn_law_read_k06 : U.fn 55 = some F_law_read_k06 := rfl
theorem fn_law_k06 : U.fn 56 = some F_law_k06 := rfl
theorem fn_must : U.fn 57 = some F_must := rfl
theorem fn_sign_of : U.fn 58 = some F_sign_of := rfl
theorem fn_is_sign : U.fn 59 = some F_is_sign := rfl
theorem fn_number_of : U.fn 60 = some F_number_of := rfl
theorem fn_meant : U.fn 61 = some F_meant := rfl
theorem fn_other_set : U.fn 62 = some F_other_set := rfl
theorem fn_text_of : U.fn 63 = some F_text_of := rfl
theorem fn_eleven_row : U.fn 64 = some F_eleven_row := rfl
theorem fn_straight_numbers : U.fn 65 = some F_straight_numbers := rfl
theorem fn_eleven_numbers : U.fn 66 = some F_eleven_numbers := rfl
theorem fn_law_signs : U.fn 67 = some F_law_signs := rfl
theorem fn_law_tells : U.fn 68 = some F_law_tells := rfl
theorem fn_law_eleven_row : U.fn 69 = some F_law_eleven_row := rfl
theorem fn_law_numbers : U.fn 70 = some F_law_numbers := rfl
theorem fn_law_said_k07 : U.fn 71 = some F_law_said_k07 := rfl
theorem fn_law_read_k07 : U.fn 72 = some F_law_read_k07 := rfl
theorem fn_law_k07 : U.fn 73 = some F_law_k07 := rfl
theorem fn_law_read_k08 : U.fn 74 = some F_law_read_k08 := rfl
theorem fn_law_reads : U.fn 75 = some F_law_reads := rfl
theorem fn_law_are_signs : U.fn 76 = some F_law_are_signs := rfl
theorem fn_law_k08 : U.fn 77 = some F_law_k08 := rfl
theorem fn_heads : U.fn 78 = some F_heads := rfl
theorem fn_is_better : U.fn 79 = some F_is_better := rfl
theorem fn_shortest : U.fn 80 = some F_shortest := rfl
theorem fn_how_long : U.fn 81 = some F_how_long := rfl
theorem fn_eleven_of : U.fn 82 = some F_eleven_of := rfl
theorem fn_law_further : U.fn 84 = some F_law_further := rfl
theorem fn_law_signs_text : U.fn 85 = some F_law_signs_text := rfl
theorem fn_law_said_k09 : U.fn 86 = some F_law_said_k09 := rfl
theorem fn_law_k09 : U.fn 87 = some F_law_k09 := rfl
theorem fn_law_other_case : U.fn 88 = some F_law_other_case := rfl
theorem fn_law_k10 : U.fn 89 = some F_law_k10 := rfl
theorem fn_far : U.fn 90 = some F_far := rfl
theorem fn_snapped : U.fn 91 = some F_snapped := rfl
theorem fn_is_near : U.fn 92 = some F_is_near := rfl
theorem fn_law_parts : U.fn 93 = some F_law_parts := rfl
theorem fn_law_k11 : U.fn 94 = some F_law_k11 := rfl
theorem fn_told_by : U.fn 95 = some F_told_by := rfl
theorem fn_fitted : U.fn 96 = some F_fitted := rfl
theorem fn_law_read_k12 : U.fn 97 = some F_law_read_k12 := rfl
theorem fn_law_due : U.fn 98 = some F_law_due := rfl
theorem fn_law_k12 : U.fn 99 = some F_law_k12 := rfl
theorem fn_near_rows : U.fn 100 = some F_near_rows := rfl
theorem fn_apart : U.fn 101 = some F_apart := rfl
theorem fn_least_apart : U.fn 102 = some F_least_apart := rfl
theorem fn_law_k13 : U.fn 103 = some F_law_k13 := rfl
theorem fn_law_said_k14 : U.fn 105 = some F_law_said_k14 := rfl
theorem fn_law_spoiled : U.fn 107 = some F_law_spoiled := rfl
theorem fn_law_k14 : U.fn 108 = some F_law_k14 := rfl
theorem fn_straight : U.fn 109 = some F_straight := rfl
theorem fn_told_in : U.fn 110 = some F_told_in := rfl
theorem fn_stretches : U.fn 111 = some F_stretches := rfl
theorem fn_found : U.fn 112 = some F_found := rfl
theorem fn_law_read_k15 : U.fn 113 = some F_law_read_k15 := rfl
theorem fn_law_scan : U.fn 114 = some F_law_scan := rfl
theorem fn_law_code : U.fn 115 = some F_law_code := rfl
theorem fn_law_picture : U.fn 116 = some F_law_picture := rfl
theorem fn_law_k15 : U.fn 117 = some F_law_k15 := rfl
theorem fn_law_end : U.fn 118 = some F_law_end := rfl
theorem fn_law_k16 : U.fn 119 = some F_law_k16 := rfl
theorem fn_end_of : U.fn 120 = some F_end_of := rfl
theorem fn_law_end_k17 : U.fn 122 = some F_law_end_k17 := rfl
theorem fn_told_by_k19 : U.fn 125 = some F_told_by_k19 := rfl
theorem fn_kinds_for : U.fn 127 = some F_kinds_for := rfl
theorem fn_best : U.fn 128 = some F_best := rfl
theorem fn_power_of_ten : U.fn 129 = some F_power_of_ten := rfl
theorem fn_many_texts : U.fn 130 = some F_many_texts := rfl
theorem fn_law_said_k19 : U.fn 131 = some F_law_said_k19 := rfl
theorem fn_law_rows : U.fn 132 = some F_law_rows := rfl
theorem fn_law_k19 : U.fn 133 = some F_law_k19 := rfl
theorem fn_is_pair : U.fn 134 = some F_is_pair := rfl
theorem fn_is_label : U.fn 135 = some F_is_label := rfl
theorem fn_label_picture : U.fn 136 = some F_label_picture := rfl
theorem fn_label_text : U.fn 137 = some F_label_text := rfl
theorem fn_read_label : U.fn 138 = some F_read_label := rfl
theorem fn_law_label : U.fn 139 = some F_law_label := rfl
theorem fn_law_is_label : U.fn 140 = some F_law_is_label := rfl
theorem fn_law_read_k20 : U.fn 141 = some F_law_read_k20 := rfl
theorem fn_law_k20 : U.fn 142 = some F_law_k20 := rfl
theorem fn_wall : U.fn 143 = some F_wall := rfl
theorem fn_law_label_k21 : U.fn 144 = some F_law_label_k21 := rfl
theorem fn_law_said_k21 : U.fn 145 = some F_law_said_k21 := rfl
theorem fn_law_said_k22 : U.fn 147 = some F_law_said_k22 := rfl
theorem fn_law_once : U.fn 148 = some F_law_once := rfl
theorem fn_law_k22 : U.fn 149 = some F_law_k22 := rfl
theorem fn_kinds_for_k23 : U.fn 151 = some F_kinds_for_k23 := rfl
theorem fn_best_k23 : U.fn 152 = some F_best_k23 := rfl
theorem fn_is_pair_k23 : U.fn 153 = some F_is_pair_k23 := rfl
theorem fn_is_label_k23 : U.fn 154 = some F_is_label_k23 := rfl
theorem fn_label_picture_k23 : U.fn 155 = some F_label_picture_k23 := rfl
theorem fn_read_label_k23 : U.fn 156 = some F_read_label_k23 := rfl
theorem fn_law_is_refused : U.fn 159 = some F_law_is_refused := rfl
theorem fn_law_k25 : U.fn 160 = some F_law_k25 := rfl
theorem fn_law_k26 : U.fn 161 = some F_law_k26 := rfl
theorem fn_law_k27 : U.fn 162 = some F_law_k27 := rfl
theorem fn_law_k28 : U.fn 163 = some F_law_k28 := rfl
theorem fn_law_mended : U.fn 164 = some F_law_mended := rfl
theorem fn_law_is_code : U.fn 165 = some F_law_is_code := rfl
theorem fn_law_k30 : U.fn 167 = some F_law_k30 := rfl
theorem fn_law_pieces : U.fn 169 = some F_law_pieces := rfl
theorem run_is_whole (n : Nat) (x0 x1 x2 : D) : callD U (n + 1) 0 [x0, x1, x2] = fin (evSs U (callD U n) [.val x0, .val x1, .val x2] b_is_whole) := call_at (par := 3) (N := ["thing", "low", "high"]) (body := b_is_whole) (ρ := [.val x0, .val x1, .val x2]) fn_is_whole rfl (by decide) rfl
theorem run_is_row (n : Nat) (x0 : D) : callD U (n + 1) 1 [x0] = fin (evSs U (callD U n) [.val x0, .no] b_is_row) := call_at (par := 1) (N := ["thing", "one"]) (body := b_is_row) (ρ := [.val x0, .no]) fn_is_row rfl (by decide) rfl
theorem run_is_picture (n : Nat) (x0 : D) : callD U (n + 1) 2 [x0] = fin (evSs U (callD U n) [.val x0, .no] b_is_picture) := call_at (par := 1) (N := ["thing", "sign"]) (body := b_is_picture) (ρ := [.val x0, .no]) fn_is_picture rfl (by decide) rfl
theorem run_law_cell (n : Nat) (x0 x1 : D) : callD U (n + 1) 3 [x0, x1] = fin (evSs U (callD U n) [.val x0, .val x1] b_law_cell) := call_at (par := 2) (N := ["script", "k"]) (body := b_law_cell) (ρ := [.val x0, .val x1]) fn_law_cell rfl (by decide) rfl
theorem run_law_mix (n : Nat) (x0 x1 x2 : D) : callD U (n + 1) 4 [x0, x1, x2] = fin (evSs U (callD U n) [.val x0, .val x1, .val x2, .no] b_law_mix) := call_at (par := 3) (N := ["cell", "prime", "many", "blend"]) (body := b_law_mix) (ρ := [.val x0, .val x1, .val x2, .no]) fn_law_mix rfl (by decide) rfl
theorem run_law_row (n : Nat) (x0 x1 x2 : D) : callD U (n + 1) 5 [x0, x1, x2] = fin (evSs U (callD U n) [.val x0, .val x1, .val x2, .no, .no] b_law_row) := call_at (par := 3) (N := ["cell", "most", "wide", "long", "j"]) (body := b_law_row) (ρ := [.val x0, .val x1, .val x2, .no, .no]) fn_law_row rfl (by decide) rfl
theorem run_law_spots (n : Nat) (x0 : D) : callD U (n + 1) 6 [x0] = fin (evSs U (callD U n) [.val x0, .no, .no, .no] b_law_spots) := call_at (par := 1) (N := ["row", "gathered", "k", "width"]) (body := b_law_spots) (ρ := [.val x0, .no, .no, .no]) fn_law_spots rfl (by decide) rfl
theorem run_law_odd (n : Nat) (x0 x1 : D) : callD U (n + 1) 7 [x0, x1] = fin (evSs U (callD U n) [.val x0, .val x1, .no, .no] b_law_odd) := call_at (par := 2) (N := ["thing", "cell", "some", "spot"]) (body := b_law_odd) (ρ := [.val x0, .val x1, .no, .no]) fn_law_odd rfl (by decide) rfl
theorem run_law_is_row (n : Nat) (x0 : D) : callD U (n + 1) 8 [x0] = fin (evSs U (callD U n) [.val x0, .no] b_law_is_row) := call_at (par := 1) (N := ["thing", "one"]) (body := b_law_is_row) (ρ := [.val x0, .no]) fn_law_is_row rfl (by decide) rfl
theorem run_law_is_picture (n : Nat) (x0 : D) : callD U (n + 1) 9 [x0] = fin (evSs U (callD U n) [.val x0, .no] b_law_is_picture) := call_at (par := 1) (N := ["thing", "sign"]) (body := b_law_is_picture) (ρ := [.val x0, .no]) fn_law_is_picture rfl (by decide) rfl
theorem run_law (n : Nat) (x0 : D) : callD U (n + 1) 10 [x0] = fin (evSs U (callD U n) [.val x0, .no, .no, .no, .no, .no, .no, .no, .no, .no, .no] b_law) := call_at (par := 1) (N := ["script", "k", "row", "spots", "some", "pictures", "j", "pairs", "said", "due", "thing"]) (body := b_law) (ρ := [.val x0, .no, .no, .no, .no, .no, .no, .no, .no, .no, .no]) fn_law rfl (by decide) rfl
theorem run_total (n : Nat) (x0 : D) : callD U (n + 1) 11 [x0] = fin (evSs U (callD U n) [.val x0] b_total) := call_at (par := 1) (N := ["row"]) (body := b_total) (ρ := [.val x0]) fn_total rfl (by decide) rfl
theorem run_spots_of (n : Nat) (x0 : D) : callD U (n + 1) 12 [x0] = fin (evSs U (callD U n) [.val x0, .no, .no] b_spots_of) := call_at (par := 1) (N := ["row", "k", "width"]) (body := b_spots_of) (ρ := [.val x0, .no, .no]) fn_spots_of rfl (by decide) rfl
theorem run_picture_of (n : Nat) (x0 x1 : D) : callD U (n + 1) 13 [x0, x1] = fin (evSs U (callD U n) [.val x0, .val x1] b_picture_of) := call_at (par := 2) (N := ["row", "rim"]) (body := b_picture_of) (ρ := [.val x0, .val x1]) fn_picture_of rfl (by decide) rfl
theorem run_runs (n : Nat) (x0 : D) : callD U (n + 1) 14 [x0] = fin (evSs U (callD U n) [.val x0, .no, .no, .no] b_runs) := call_at (par := 1) (N := ["picture", "found", "k", "sign"]) (body := b_runs) (ρ := [.val x0, .no, .no, .no]) fn_runs rfl (by decide) rfl
theorem run_row_of (n : Nat) (x0 : D) : callD U (n + 1) 15 [x0] = fin (evSs U (callD U n) [.val x0, .no] b_row_of) := call_at (par := 1) (N := ["picture", "inner"]) (body := b_row_of) (ρ := [.val x0, .no]) fn_row_of rfl (by decide) rfl
theorem run_turned (n : Nat) (x0 : D) : callD U (n + 1) 16 [x0] = fin (evSs U (callD U n) [.val x0] b_turned) := call_at (par := 1) (N := ["row"]) (body := b_turned) (ρ := [.val x0]) fn_turned rfl (by decide) rfl
theorem run_wider (n : Nat) (x0 x1 : D) : callD U (n + 1) 17 [x0, x1] = fin (evSs U (callD U n) [.val x0, .val x1, .no] b_wider) := call_at (par := 2) (N := ["row", "times", "width"]) (body := b_wider) (ρ := [.val x0, .val x1, .no]) fn_wider rfl (by decide) rfl
theorem run_bars (n : Nat) (x0 : D) : callD U (n + 1) 18 [x0] = fin (evSs U (callD U n) [.val x0] b_bars) := call_at (par := 1) (N := ["row"]) (body := b_bars) (ρ := [.val x0]) fn_bars rfl (by decide) rfl
theorem run_gaps (n : Nat) (x0 : D) : callD U (n + 1) 19 [x0] = fin (evSs U (callD U n) [.val x0] b_gaps) := call_at (par := 1) (N := ["row"]) (body := b_gaps) (ρ := [.val x0]) fn_gaps rfl (by decide) rfl
theorem run_law_same (n : Nat) (x0 x1 : D) : callD U (n + 1) 20 [x0, x1] = fin (evSs U (callD U n) [.val x0, .val x1, .no, .no] b_law_same) := call_at (par := 2) (N := ["gathered", "due", "one", "other"]) (body := b_law_same) (ρ := [.val x0, .val x1, .no, .no]) fn_law_same rfl (by decide) rfl
theorem run_law_runs (n : Nat) (x0 : D) : callD U (n + 1) 21 [x0] = fin (evSs U (callD U n) [.val x0, .no, .no, .no] b_law_runs) := call_at (par := 1) (N := ["spots", "sign", "gathered", "last"]) (body := b_law_runs) (ρ := [.val x0, .no, .no, .no]) fn_law_runs rfl (by decide) rfl
theorem run_law_said (n : Nat) (x0 : D) : callD U (n + 1) 23 [x0] = fin (evSs U (callD U n) [.val x0, .no] b_law_said) := call_at (par := 1) (N := ["picture", "e"]) (body := b_law_said) (ρ := [.val x0, .no]) fn_law_said rfl (by decide) rfl
theorem run_law_k02 (n : Nat) (x0 : D) : callD U (n + 1) 24 [x0] = fin (evSs U (callD U n) [.val x0, .no, .no, .no, .no, .no, .no, .no, .no, .no, .no, .no, .no, .no, .no, .no] b_law_k02) := call_at (par := 1) (N := ["script", "k", "cell", "spots", "picture", "times", "wide", "dark", "light", "drawn", "due", "row", "rim", "sign", "j", "width"]) (body := b_law_k02) (ρ := [.val x0, .no, .no, .no, .no, .no, .no, .no, .no, .no, .no, .no, .no, .no, .no, .no]) fn_law_k02 rfl (by decide) rfl
theorem run_weighed (n : Nat) (x0 : D) : callD U (n + 1) 25 [x0] = fin (evSs U (callD U n) [.val x0, .no, .no] b_weighed) := call_at (par := 1) (N := ["figures", "k", "figure"]) (body := b_weighed) (ρ := [.val x0, .no, .no]) fn_weighed rfl (by decide) rfl
theorem run_check_of (n : Nat) (x0 : D) : callD U (n + 1) 26 [x0] = fin (evSs U (callD U n) [.val x0] b_check_of) := call_at (par := 1) (N := ["figures"]) (body := b_check_of) (ρ := [.val x0]) fn_check_of rfl (by decide) rfl
theorem run_fits (n : Nat) (x0 : D) : callD U (n + 1) 27 [x0] = fin (evSs U (callD U n) [.val x0] b_fits) := call_at (par := 1) (N := ["figures"]) (body := b_fits) (ρ := [.val x0]) fn_fits rfl (by decide) rfl
theorem run_lacking (n : Nat) (x0 : D) : callD U (n + 1) 28 [x0] = fin (evSs U (callD U n) [.val x0, .no] b_lacking) := call_at (par := 1) (N := ["text", "figure"]) (body := b_lacking) (ρ := [.val x0, .no]) fn_lacking rfl (by decide) rfl
theorem run_exchanged (n : Nat) (x0 x1 : D) : callD U (n + 1) 29 [x0, x1] = fin (evSs U (callD U n) [.val x0, .val x1] b_exchanged) := call_at (par := 2) (N := ["figures", "k"]) (body := b_exchanged) (ρ := [.val x0, .val x1]) fn_exchanged rfl (by decide) rfl
theorem run_silent (n : Nat) (x0 : D) : callD U (n + 1) 30 [x0] = fin (evSs U (callD U n) [.val x0, .no, .no] b_silent) := call_at (par := 1) (N := ["figures", "found", "k"]) (body := b_silent) (ρ := [.val x0, .no, .no]) fn_silent rfl (by decide) rfl
theorem run_mod_check (n : Nat) (x0 x1 : D) : callD U (n + 1) 31 [x0, x1] = fin (evSs U (callD U n) [.val x0, .val x1, .no, .no] b_mod_check) := call_at (par := 2) (N := ["values", "by", "k", "value"]) (body := b_mod_check) (ρ := [.val x0, .val x1, .no, .no]) fn_mod_check rfl (by decide) rfl
theorem run_law_figures (n : Nat) (x0 x1 : D) : callD U (n + 1) 32 [x0, x1] = fin (evSs U (callD U n) [.val x0, .val x1, .no] b_law_figures) := call_at (par := 2) (N := ["cell", "many", "j"]) (body := b_law_figures) (ρ := [.val x0, .val x1, .no]) fn_law_figures rfl (by decide) rfl
theorem run_law_sum (n : Nat) (x0 : D) : callD U (n + 1) 33 [x0] = fin (evSs U (callD U n) [.val x0, .no, .no, .no] b_law_sum) := call_at (par := 1) (N := ["figures", "gathered", "k", "figure"]) (body := b_law_sum) (ρ := [.val x0, .no, .no, .no]) fn_law_sum rfl (by decide) rfl
theorem run_law_check (n : Nat) (x0 : D) : callD U (n + 1) 34 [x0] = fin (evSs U (callD U n) [.val x0, .no] b_law_check) := call_at (par := 1) (N := ["figures", "one"]) (body := b_law_check) (ρ := [.val x0, .no]) fn_law_check rfl (by decide) rfl
theorem run_law_k04 (n : Nat) (x0 : D) : callD U (n + 1) 36 [x0] = fin (evSs U (callD U n) [.val x0, .no, .no, .no, .no, .no, .no, .no, .no, .no, .no, .no] b_law_k04) := call_at (par := 1) (N := ["script", "k", "cell", "figures", "full", "place", "other", "ahead", "one", "five", "swapped", "near"]) (body := b_law_k04) (ρ := [.val x0, .no, .no, .no, .no, .no, .no, .no, .no, .no, .no, .no]) fn_law_k04 rfl (by decide) rfl
theorem run_are_figures (n : Nat) (x0 : D) : callD U (n + 1) 37 [x0] = fin (evSs U (callD U n) [.val x0, .no] b_are_figures) := call_at (par := 1) (N := ["text", "sign"]) (body := b_are_figures) (ρ := [.val x0, .no]) fn_are_figures rfl (by decide) rfl
theorem run_thirteen_row (n : Nat) (x0 : D) : callD U (n + 1) 38 [x0] = fin (evSs U (callD U n) [.val x0, .no, .no, .no, .no] b_thirteen_row) := call_at (par := 1) (N := ["figures", "found", "figure", "manner", "widths"]) (body := b_thirteen_row) (ρ := [.val x0, .no, .no, .no, .no]) fn_thirteen_row rfl (by decide) rfl
theorem run_fours (n : Nat) (x0 x1 : D) : callD U (n + 1) 39 [x0, x1] = fin (evSs U (callD U n) [.val x0, .val x1, .no] b_fours) := call_at (par := 2) (N := ["row", "begin", "k"]) (body := b_fours) (ρ := [.val x0, .val x1, .no]) fn_fours rfl (by decide) rfl
theorem run_left_figures (n : Nat) (x0 : D) : callD U (n + 1) 40 [x0] = fin (evSs U (callD U n) [.val x0, .no, .no, .no] b_left_figures) := call_at (par := 1) (N := ["some", "widths", "found", "manners"]) (body := b_left_figures) (ρ := [.val x0, .no, .no, .no]) fn_left_figures rfl (by decide) rfl
theorem run_straight_thirteen (n : Nat) (x0 : D) : callD U (n + 1) 41 [x0] = fin (evSs U (callD U n) [.val x0, .no, .no, .no, .no] b_straight_thirteen) := call_at (par := 1) (N := ["row", "left", "right", "found", "widths"]) (body := b_straight_thirteen) (ρ := [.val x0, .no, .no, .no, .no]) fn_straight_thirteen rfl (by decide) rfl
theorem run_thirteen_of (n : Nat) (x0 : D) : callD U (n + 1) 42 [x0] = fin (evSs U (callD U n) [.val x0, .no] b_thirteen_of) := call_at (par := 1) (N := ["row", "found"]) (body := b_thirteen_of) (ρ := [.val x0, .no]) fn_thirteen_of rfl (by decide) rfl
theorem run_law_thirteen (n : Nat) (x0 : D) : callD U (n + 1) 43 [x0] = fin (evSs U (callD U n) [.val x0, .no] b_law_thirteen) := call_at (par := 1) (N := ["cell", "first"]) (body := b_law_thirteen) (ρ := [.val x0, .no]) fn_law_thirteen rfl (by decide) rfl
theorem run_law_thirteen_row (n : Nat) (x0 : D) : callD U (n + 1) 44 [x0] = fin (evSs U (callD U n) [.val x0, .no, .no, .no, .no, .no, .no, .no] b_law_thirteen_row) := call_at (par := 1) (N := ["figures", "odd", "manners", "gathered", "k", "figure", "widths", "width"]) (body := b_law_thirteen_row) (ρ := [.val x0, .no, .no, .no, .no, .no, .no, .no]) fn_law_thirteen_row rfl (by decide) rfl
theorem run_law_said_k05 (n : Nat) (x0 x1 : D) : callD U (n + 1) 45 [x0, x1] = fin (evSs U (callD U n) [.val x0, .val x1, .no] b_law_said_k05) := call_at (par := 2) (N := ["way", "thing", "e"]) (body := b_law_said_k05) (ρ := [.val x0, .val x1, .no]) fn_law_said_k05 rfl (by decide) rfl
theorem run_law_read (n : Nat) (x0 : D) : callD U (n + 1) 46 [x0] = fin (evSs U (callD U n) [.val x0, .no, .no, .no, .no, .no, .no, .no, .no] b_law_read) := call_at (par := 1) (N := ["row", "some", "figures", "k", "first", "begin", "figure", "full", "widths"]) (body := b_law_read) (ρ := [.val x0, .no, .no, .no, .no, .no, .no, .no, .no]) fn_law_read rfl (by decide) rfl
theorem run_law_k05 (n : Nat) (x0 : D) : callD U (n + 1) 47 [x0] = fin (evSs U (callD U n) [.val x0, .no, .no, .no, .no, .no, .no, .no, .no, .no, .no, .no, .no] b_law_k05) := call_at (par := 1) (N := ["script", "k", "cell", "figures", "row", "place", "near", "moved", "some", "bad", "last", "wrong", "one"]) (body := b_law_k05) (ρ := [.val x0, .no, .no, .no, .no, .no, .no, .no, .no, .no, .no, .no, .no]) fn_law_k05 rfl (by decide) rfl
theorem run_width_of (n : Nat) (x0 x1 : D) : callD U (n + 1) 48 [x0, x1] = fin (evSs U (callD U n) [.val x0, .val x1] b_width_of) := call_at (par := 2) (N := ["sign", "wide"]) (body := b_width_of) (ρ := [.val x0, .val x1]) fn_width_of rfl (by decide) rfl
theorem run_pair_row (n : Nat) (x0 x1 : D) : callD U (n + 1) 49 [x0, x1] = fin (evSs U (callD U n) [.val x0, .val x1, .no, .no, .no, .no] b_pair_row) := call_at (par := 2) (N := ["figures", "wide", "found", "k", "bar", "gap"]) (body := b_pair_row) (ρ := [.val x0, .val x1, .no, .no, .no, .no]) fn_pair_row rfl (by decide) rfl
theorem run_figure_in (n : Nat) (x0 x1 : D) : callD U (n + 1) 50 [x0, x1] = fin (evSs U (callD U n) [.val x0, .val x1, .no, .no] b_figure_in) := call_at (par := 2) (N := ["widths", "wide", "signs", "width"]) (body := b_figure_in) (ρ := [.val x0, .val x1, .no, .no]) fn_figure_in rfl (by decide) rfl
theorem run_straight_pair (n : Nat) (x0 x1 : D) : callD U (n + 1) 51 [x0, x1] = fin (evSs U (callD U n) [.val x0, .val x1, .no, .no, .no, .no] b_straight_pair) := call_at (par := 2) (N := ["row", "wide", "found", "k", "some", "side"]) (body := b_straight_pair) (ρ := [.val x0, .val x1, .no, .no, .no, .no]) fn_straight_pair rfl (by decide) rfl
theorem run_pair_of (n : Nat) (x0 : D) : callD U (n + 1) 52 [x0] = fin (evSs U (callD U n) [.val x0, .no, .no, .no] b_pair_of) := call_at (par := 1) (N := ["row", "some", "wide", "found"]) (body := b_pair_of) (ρ := [.val x0, .no, .no, .no]) fn_pair_of rfl (by decide) rfl
theorem run_law_pair_row (n : Nat) (x0 x1 : D) : callD U (n + 1) 53 [x0, x1] = fin (evSs U (callD U n) [.val x0, .val x1, .no, .no, .no, .no, .no, .no] b_law_pair_row) := call_at (par := 2) (N := ["figures", "wide", "fives", "gathered", "k", "one", "other", "j"]) (body := b_law_pair_row) (ρ := [.val x0, .val x1, .no, .no, .no, .no, .no, .no]) fn_law_pair_row rfl (by decide) rfl
theorem run_law_said_k06 (n : Nat) (x0 x1 x2 : D) : callD U (n + 1) 54 [x0, x1, x2] = fin (evSs U (callD U n) [.val x0, .val x1, .val x2, .no] b_law_said_k06) := call_at (par := 3) (N := ["way", "thing", "wide", "e"]) (body := b_law_said_k06) (ρ := [.val x0, .val x1, .val x2, .no]) fn_law_said_k06 rfl (by decide) rfl
theorem run_law_read_k06 (n : Nat) (x0 : D) : callD U (n + 1) 55 [x0] = fin (evSs U (callD U n) [.val x0, .no, .no, .no, .no, .no, .no, .no, .no] b_law_read_k06) := call_at (par := 1) (N := ["row", "some", "wide", "figures", "begin", "many", "side", "figure", "pair"]) (body := b_law_read_k06) (ρ := [.val x0, .no, .no, .no, .no, .no, .no, .no, .no]) fn_law_read_k06 rfl (by decide) rfl
theorem run_law_k06 (n : Nat) (x0 : D) : callD U (n + 1) 56 [x0] = fin (evSs U (callD U n) [.val x0, .no, .no, .no, .no, .no, .no, .no, .no, .no, .no, .no, .no] b_law_k06) := call_at (par := 1) (N := ["script", "k", "due", "cell", "row", "place", "near", "moved", "some", "bad", "figures", "wide", "one"]) (body := b_law_k06) (ρ := [.val x0, .no, .no, .no, .no, .no, .no, .no, .no, .no, .no, .no, .no]) fn_law_k06 rfl (by decide) rfl
theorem run_must (n : Nat) (x0 : D) : callD U (n + 1) 57 [x0] = fin (evSs U (callD U n) [.val x0] b_must) := call_at (par := 1) (N := ["truth"]) (body := b_must) (ρ := [.val x0]) fn_must rfl (by decide) rfl
theorem run_sign_of (n : Nat) (x0 : D) : callD U (n + 1) 58 [x0] = fin (evSs U (callD U n) [.val x0, .no] b_sign_of) := call_at (par := 1) (N := ["number", "width"]) (body := b_sign_of) (ρ := [.val x0, .no]) fn_sign_of rfl (by decide) rfl
theorem run_is_sign (n : Nat) (x0 : D) : callD U (n + 1) 59 [x0] = fin (evSs U (callD U n) [.val x0, .no] b_is_sign) := call_at (par := 1) (N := ["sign", "width"]) (body := b_is_sign) (ρ := [.val x0, .no]) fn_is_sign rfl (by decide) rfl
theorem run_number_of (n : Nat) (x0 : D) : callD U (n + 1) 60 [x0] = fin (evSs U (callD U n) [.val x0, .no] b_number_of) := call_at (par := 1) (N := ["sign", "width"]) (body := b_number_of) (ρ := [.val x0, .no]) fn_number_of rfl (by decide) rfl
theorem run_meant (n : Nat) (x0 x1 : D) : callD U (n + 1) 61 [x0, x1] = fin (evSs U (callD U n) [.val x0, .val x1, .no] b_meant) := call_at (par := 2) (N := ["number", "name", "signs"]) (body := b_meant) (ρ := [.val x0, .val x1, .no]) fn_meant rfl (by decide) rfl
theorem run_other_set (n : Nat) (x0 : D) : callD U (n + 1) 62 [x0] = fin (evSs U (callD U n) [.val x0] b_other_set) := call_at (par := 1) (N := ["name"]) (body := b_other_set) (ρ := [.val x0]) fn_other_set rfl (by decide) rfl
theorem run_text_of (n : Nat) (x0 : D) : callD U (n + 1) 63 [x0] = fin (evSs U (callD U n) [.val x0, .no, .no, .no, .no] b_text_of) := call_at (par := 1) (N := ["numbers", "number", "name", "is_shifted", "found"]) (body := b_text_of) (ρ := [.val x0, .no, .no, .no, .no]) fn_text_of rfl (by decide) rfl
theorem run_eleven_row (n : Nat) (x0 : D) : callD U (n + 1) 64 [x0] = fin (evSs U (callD U n) [.val x0, .no, .no] b_eleven_row) := call_at (par := 1) (N := ["numbers", "found", "number"]) (body := b_eleven_row) (ρ := [.val x0, .no, .no]) fn_eleven_row rfl (by decide) rfl
theorem run_straight_numbers (n : Nat) (x0 : D) : callD U (n + 1) 65 [x0] = fin (evSs U (callD U n) [.val x0, .no, .no, .no, .no] b_straight_numbers) := call_at (par := 1) (N := ["row", "some", "found", "k", "sign"]) (body := b_straight_numbers) (ρ := [.val x0, .no, .no, .no, .no]) fn_straight_numbers rfl (by decide) rfl
theorem run_eleven_numbers (n : Nat) (x0 : D) : callD U (n + 1) 66 [x0] = fin (evSs U (callD U n) [.val x0, .no] b_eleven_numbers) := call_at (par := 1) (N := ["row", "found"]) (body := b_eleven_numbers) (ρ := [.val x0, .no]) fn_eleven_numbers rfl (by decide) rfl
theorem run_law_signs (n : Nat) : callD U (n + 1) 67 [] = fin (evSs U (callD U n) [.no, .no, .no, .no, .no] b_law_signs) := call_at (par := 0) (N := ["gathered", "number", "turn", "widths", "left"]) (body := b_law_signs) (ρ := [.no, .no, .no, .no, .no]) fn_law_signs rfl (by decide) rfl
theorem run_law_tells (n : Nat) (x0 : D) : callD U (n + 1) 68 [x0] = fin (evSs U (callD U n) [.val x0, .no, .no, .no, .no, .no, .no] b_law_tells) := call_at (par := 1) (N := ["numbers", "rest", "sets", "number", "here", "text", "shifted"]) (body := b_law_tells) (ρ := [.val x0, .no, .no, .no, .no, .no, .no]) fn_law_tells rfl (by decide) rfl
theorem run_law_eleven_row (n : Nat) (x0 x1 : D) : callD U (n + 1) 69 [x0, x1] = fin (evSs U (callD U n) [.val x0, .val x1, .no, .no, .no, .no] b_law_eleven_row) := call_at (par := 2) (N := ["numbers", "signs", "total_now", "gathered", "number", "k"]) (body := b_law_eleven_row) (ρ := [.val x0, .val x1, .no, .no, .no, .no]) fn_law_eleven_row rfl (by decide) rfl
theorem run_law_numbers (n : Nat) (x0 : D) : callD U (n + 1) 70 [x0] = fin (evSs U (callD U n) [.val x0, .no, .no, .no, .no, .no] b_law_numbers) := call_at (par := 1) (N := ["cell", "j", "gathered", "here", "seed", "way"]) (body := b_law_numbers) (ρ := [.val x0, .no, .no, .no, .no, .no]) fn_law_numbers rfl (by decide) rfl
theorem run_law_said_k07 (n : Nat) (x0 x1 : D) : callD U (n + 1) 71 [x0, x1] = fin (evSs U (callD U n) [.val x0, .val x1, .no] b_law_said_k07) := call_at (par := 2) (N := ["way", "thing", "e"]) (body := b_law_said_k07) (ρ := [.val x0, .val x1, .no]) fn_law_said_k07 rfl (by decide) rfl
theorem run_law_read_k07 (n : Nat) (x0 x1 : D) : callD U (n + 1) 72 [x0, x1] = fin (evSs U (callD U n) [.val x0, .val x1, .no, .no, .no, .no, .no] b_law_read_k07) := call_at (par := 2) (N := ["row", "signs", "some", "six", "numbers", "k", "one"]) (body := b_law_read_k07) (ρ := [.val x0, .val x1, .no, .no, .no, .no, .no]) fn_law_read_k07 rfl (by decide) rfl
theorem run_law_k07 (n : Nat) (x0 : D) : callD U (n + 1) 73 [x0] = fin (evSs U (callD U n) [.val x0, .no, .no, .no, .no, .no, .no, .no, .no, .no, .no, .no, .no, .no, .no] b_law_k07) := call_at (par := 1) (N := ["script", "signs", "number", "k", "due", "cell", "numbers", "place", "odd", "some", "row", "near", "moved", "other", "text"]) (body := b_law_k07) (ρ := [.val x0, .no, .no, .no, .no, .no, .no, .no, .no, .no, .no, .no, .no, .no, .no]) fn_law_k07 rfl (by decide) rfl
theorem run_law_read_k08 (n : Nat) (x0 x1 : D) : callD U (n + 1) 74 [x0, x1] = fin (evSs U (callD U n) [.val x0, .val x1] b_law_read_k08) := call_at (par := 2) (N := ["kind", "row"]) (body := b_law_read_k08) (ρ := [.val x0, .val x1]) fn_law_read_k08 rfl (by decide) rfl
theorem run_law_reads (n : Nat) (x0 : D) : callD U (n + 1) 75 [x0] = fin (evSs U (callD U n) [.val x0, .no, .no] b_law_reads) := call_at (par := 1) (N := ["row", "gathered", "kind"]) (body := b_law_reads) (ρ := [.val x0, .no, .no]) fn_law_reads rfl (by decide) rfl
theorem run_law_are_signs (n : Nat) : callD U (n + 1) 76 [] = fin (evSs U (callD U n) [.no, .no] b_law_are_signs) := call_at (par := 0) (N := ["number", "sign"]) (body := b_law_are_signs) (ρ := [.no, .no]) fn_law_are_signs rfl (by decide) rfl
theorem run_law_k08 (n : Nat) (x0 : D) : callD U (n + 1) 77 [x0] = fin (evSs U (callD U n) [.val x0, .no, .no, .no, .no, .no, .no, .no, .no, .no, .no, .no, .no, .no, .no] b_law_k08) := call_at (par := 1) (N := ["script", "k", "cell", "figures", "row", "full", "pair", "other", "numbers", "some", "near", "many", "wide", "third", "again"]) (body := b_law_k08) (ρ := [.val x0, .no, .no, .no, .no, .no, .no, .no, .no, .no, .no, .no, .no, .no, .no]) fn_law_k08 rfl (by decide) rfl
theorem run_heads (n : Nat) (x0 x1 : D) : callD U (n + 1) 78 [x0, x1] = fin (evSs U (callD U n) [.val x0, .val x1, .no, .no, .no, .no, .no] b_heads) := call_at (par := 2) (N := ["text", "name", "found", "k", "other", "mine", "yours"]) (body := b_heads) (ρ := [.val x0, .val x1, .no, .no, .no, .no, .no]) fn_heads rfl (by decide) rfl
theorem run_is_better (n : Nat) (x0 x1 : D) : callD U (n + 1) 79 [x0, x1] = fin (evSs U (callD U n) [.val x0, .val x1] b_is_better) := call_at (par := 2) (N := ["one", "other"]) (body := b_is_better) (ρ := [.val x0, .val x1]) fn_is_better rfl (by decide) rfl
theorem run_shortest (n : Nat) (x0 : D) : callD U (n + 1) 80 [x0] = fin (evSs U (callD U n) [.val x0, .no, .no, .no, .no, .no, .no, .no, .no, .no, .no, .no, .no] b_shortest) := call_at (par := 1) (N := ["text", "best", "place", "found", "name", "turn", "k", "some", "many", "then", "rest", "one", "sign"]) (body := b_shortest) (ρ := [.val x0, .no, .no, .no, .no, .no, .no, .no, .no, .no, .no, .no, .no]) fn_shortest rfl (by decide) rfl
theorem run_how_long (n : Nat) (x0 : D) : callD U (n + 1) 81 [x0] = fin (evSs U (callD U n) [.val x0] b_how_long) := call_at (par := 1) (N := ["text"]) (body := b_how_long) (ρ := [.val x0]) fn_how_long rfl (by decide) rfl
theorem run_eleven_of (n : Nat) (x0 : D) : callD U (n + 1) 82 [x0] = fin (evSs U (callD U n) [.val x0] b_eleven_of) := call_at (par := 1) (N := ["row"]) (body := b_eleven_of) (ρ := [.val x0]) fn_eleven_of rfl (by decide) rfl
theorem run_law_further (n : Nat) (x0 x1 x2 : D) : callD U (n + 1) 84 [x0, x1, x2] = fin (evSs U (callD U n) [.val x0, .val x1, .val x2, .no, .no, .no, .no, .no, .no, .no, .no, .no, .no, .no, .no, .no] b_law_further) := call_at (par := 3) (N := ["here", "text", "sets", "new", "name", "place", "row", "some", "sign", "pair", "then", "there", "numbers", "number", "k", "one"]) (body := b_law_further) (ρ := [.val x0, .val x1, .val x2, .no, .no, .no, .no, .no, .no, .no, .no, .no, .no, .no, .no, .no]) fn_law_further rfl (by decide) rfl
theorem run_law_signs_text (n : Nat) (x0 x1 : D) : callD U (n + 1) 85 [x0, x1] = fin (evSs U (callD U n) [.val x0, .val x1, .no, .no, .no, .no] b_law_signs_text) := call_at (par := 2) (N := ["cell", "most", "gathered", "j", "seed", "kind"]) (body := b_law_signs_text) (ρ := [.val x0, .val x1, .no, .no, .no, .no]) fn_law_signs_text rfl (by decide) rfl
theorem run_law_said_k09 (n : Nat) (x0 x1 : D) : callD U (n + 1) 86 [x0, x1] = fin (evSs U (callD U n) [.val x0, .val x1, .no] b_law_said_k09) := call_at (par := 2) (N := ["way", "thing", "e"]) (body := b_law_said_k09) (ρ := [.val x0, .val x1, .no]) fn_law_said_k09 rfl (by decide) rfl
theorem run_law_k09 (n : Nat) (x0 : D) : callD U (n + 1) 87 [x0] = fin (evSs U (callD U n) [.val x0, .no, .no, .no, .no, .no, .no] b_law_k09) := call_at (par := 1) (N := ["script", "signs", "k", "text", "due", "row", "bad"]) (body := b_law_k09) (ρ := [.val x0, .no, .no, .no, .no, .no, .no]) fn_law_k09 rfl (by decide) rfl
theorem run_law_other_case (n : Nat) (x0 : D) : callD U (n + 1) 88 [x0] = fin (evSs U (callD U n) [.val x0, .no, .no, .no, .no] b_law_other_case) := call_at (par := 1) (N := ["text", "gathered", "sign", "small", "great"]) (body := b_law_other_case) (ρ := [.val x0, .no, .no, .no, .no]) fn_law_other_case rfl (by decide) rfl
theorem run_law_k10 (n : Nat) (x0 : D) : callD U (n + 1) 89 [x0] = fin (evSs U (callD U n) [.val x0, .no, .no, .no, .no, .no, .no, .no, .no, .no] b_law_k10) := call_at (par := 1) (N := ["script", "k", "cell", "text", "some", "numbers", "told_text", "more", "other", "fewest"]) (body := b_law_k10) (ρ := [.val x0, .no, .no, .no, .no, .no, .no, .no, .no, .no]) fn_law_k10 rfl (by decide) rfl
theorem run_far (n : Nat) (x0 x1 x2 x3 : D) : callD U (n + 1) 90 [x0, x1, x2, x3] = fin (evSs U (callD U n) [.val x0, .val x1, .val x2, .val x3] b_far) := call_at (par := 4) (N := ["width", "one", "every", "spots"]) (body := b_far) (ρ := [.val x0, .val x1, .val x2, .val x3]) fn_far rfl (by decide) rfl
theorem run_snapped (n : Nat) (x0 x1 : D) : callD U (n + 1) 91 [x0, x1] = fin (evSs U (callD U n) [.val x0, .val x1, .no, .no, .no, .no, .no, .no, .no] b_snapped) := call_at (par := 2) (N := ["measured", "spots", "every", "found", "turn", "costs", "place", "k", "one"]) (body := b_snapped) (ρ := [.val x0, .val x1, .no, .no, .no, .no, .no, .no, .no]) fn_snapped rfl (by decide) rfl
theorem run_is_near (n : Nat) (x0 x1 x2 : D) : callD U (n + 1) 92 [x0, x1, x2] = fin (evSs U (callD U n) [.val x0, .val x1, .val x2, .no, .no] b_is_near) := call_at (par := 3) (N := ["row", "measured", "unit", "width", "one"]) (body := b_is_near) (ρ := [.val x0, .val x1, .val x2, .no, .no]) fn_is_near rfl (by decide) rfl
theorem run_law_parts (n : Nat) (x0 x1 : D) : callD U (n + 1) 93 [x0, x1] = fin (evSs U (callD U n) [.val x0, .val x1, .no, .no, .no] b_law_parts) := call_at (par := 2) (N := ["many", "spots", "gathered", "first", "rest"]) (body := b_law_parts) (ρ := [.val x0, .val x1, .no, .no, .no]) fn_law_parts rfl (by decide) rfl
theorem run_law_k11 (n : Nat) (x0 : D) : callD U (n + 1) 94 [x0] = fin (evSs U (callD U n) [.val x0, .no, .no, .no, .no, .no, .no, .no, .no, .no, .no, .no, .no, .no, .no, .no] b_law_k11) := call_at (par := 1) (N := ["script", "k", "cell", "many", "measured", "spots", "every", "ranked", "some", "row", "unit", "rough", "j", "width", "due", "one"]) (body := b_law_k11) (ρ := [.val x0, .no, .no, .no, .no, .no, .no, .no, .no, .no, .no, .no, .no, .no, .no, .no]) fn_law_k11 rfl (by decide) rfl
theorem run_told_by (n : Nat) (x0 x1 : D) : callD U (n + 1) 95 [x0, x1] = fin (evSs U (callD U n) [.val x0, .val x1] b_told_by) := call_at (par := 2) (N := ["read", "row"]) (body := b_told_by) (ρ := [.val x0, .val x1]) fn_told_by rfl (by decide) rfl
theorem run_fitted (n : Nat) (x0 : D) : callD U (n + 1) 96 [x0] = fin (evSs U (callD U n) [.val x0, .no, .no, .no, .no, .no, .no] b_fitted) := call_at (par := 1) (N := ["measured", "found", "many", "some", "one", "figures", "wide"]) (body := b_fitted) (ρ := [.val x0, .no, .no, .no, .no, .no, .no]) fn_fitted rfl (by decide) rfl
theorem run_law_read_k12 (n : Nat) (x0 x1 : D) : callD U (n + 1) 97 [x0, x1] = fin (evSs U (callD U n) [.val x0, .val x1] b_law_read_k12) := call_at (par := 2) (N := ["kind", "row"]) (body := b_law_read_k12) (ρ := [.val x0, .val x1]) fn_law_read_k12 rfl (by decide) rfl
theorem run_law_due (n : Nat) (x0 : D) : callD U (n + 1) 98 [x0] = fin (evSs U (callD U n) [.val x0, .no, .no, .no, .no, .no, .no] b_law_due) := call_at (par := 1) (N := ["measured", "some", "many", "due", "kind", "spots", "text"]) (body := b_law_due) (ρ := [.val x0, .no, .no, .no, .no, .no, .no]) fn_law_due rfl (by decide) rfl
theorem run_law_k12 (n : Nat) (x0 : D) : callD U (n + 1) 99 [x0] = fin (evSs U (callD U n) [.val x0, .no, .no, .no, .no, .no, .no, .no, .no, .no, .no, .no, .no, .no, .no, .no, .no, .no] b_law_k12) := call_at (par := 1) (N := ["script", "k", "cell", "unit", "pair", "rows", "eighth", "measured", "wanted", "rough", "some", "figures", "text", "kind", "row", "j", "width", "one"]) (body := b_law_k12) (ρ := [.val x0, .no, .no, .no, .no, .no, .no, .no, .no, .no, .no, .no, .no, .no, .no, .no, .no, .no]) fn_law_k12 rfl (by decide) rfl
theorem run_near_rows (n : Nat) (x0 : D) : callD U (n + 1) 100 [x0] = fin (evSs U (callD U n) [.val x0, .no, .no, .no, .no] b_near_rows) := call_at (par := 1) (N := ["row", "spots", "found", "k", "other"]) (body := b_near_rows) (ρ := [.val x0, .no, .no, .no, .no]) fn_near_rows rfl (by decide) rfl
theorem run_apart (n : Nat) (x0 x1 : D) : callD U (n + 1) 101 [x0, x1] = fin (evSs U (callD U n) [.val x0, .val x1, .no, .no] b_apart) := call_at (par := 2) (N := ["one", "other", "k", "sign"]) (body := b_apart) (ρ := [.val x0, .val x1, .no, .no]) fn_apart rfl (by decide) rfl
theorem run_least_apart (n : Nat) : callD U (n + 1) 102 [] = fin (evSs U (callD U n) [.no, .no, .no, .no, .no, .no, .no, .no] b_least_apart) := call_at (par := 0) (N := ["spots", "found", "k", "one", "other", "number", "place", "sign"]) (body := b_least_apart) (ρ := [.no, .no, .no, .no, .no, .no, .no, .no]) fn_least_apart rfl (by decide) rfl
theorem run_law_k13 (n : Nat) (x0 : D) : callD U (n + 1) 103 [x0] = fin (evSs U (callD U n) [.val x0, .no, .no, .no, .no, .no, .no, .no, .no, .no, .no, .no, .no, .no, .no, .no] b_law_k13) := call_at (par := 1) (N := ["script", "k", "every", "least", "cell", "row", "spots", "due", "place", "other", "one", "j", "mine", "far_off", "sign", "yours"]) (body := b_law_k13) (ρ := [.val x0, .no, .no, .no, .no, .no, .no, .no, .no, .no, .no, .no, .no, .no, .no, .no]) fn_law_k13 rfl (by decide) rfl
theorem run_law_said_k14 (n : Nat) (x0 x1 : D) : callD U (n + 1) 105 [x0, x1] = fin (evSs U (callD U n) [.val x0, .val x1, .no] b_law_said_k14) := call_at (par := 2) (N := ["kind", "row", "e"]) (body := b_law_said_k14) (ρ := [.val x0, .val x1, .no]) fn_law_said_k14 rfl (by decide) rfl
theorem run_law_spoiled (n : Nat) (x0 x1 : D) : callD U (n + 1) 107 [x0, x1] = fin (evSs U (callD U n) [.val x0, .val x1, .no] b_law_spoiled) := call_at (par := 2) (N := ["row", "place", "spots"]) (body := b_law_spoiled) (ρ := [.val x0, .val x1, .no]) fn_law_spoiled rfl (by decide) rfl
theorem run_law_k14 (n : Nat) (x0 : D) : callD U (n + 1) 108 [x0] = fin (evSs U (callD U n) [.val x0, .no, .no, .no, .no, .no, .no, .no, .no, .no, .no, .no, .no] b_law_k14) := call_at (par := 1) (N := ["script", "k", "cell", "pair", "rows", "place", "other", "near", "some", "figures", "text", "kind", "row"]) (body := b_law_k14) (ρ := [.val x0, .no, .no, .no, .no, .no, .no, .no, .no, .no, .no, .no, .no]) fn_law_k14 rfl (by decide) rfl
theorem run_straight (n : Nat) (x0 x1 : D) : callD U (n + 1) 109 [x0, x1] = fin (evSs U (callD U n) [.val x0, .val x1, .no, .no, .no] b_straight) := call_at (par := 2) (N := ["kind", "row", "numbers", "some", "wide"]) (body := b_straight) (ρ := [.val x0, .val x1, .no, .no, .no]) fn_straight rfl (by decide) rfl
theorem run_told_in (n : Nat) (x0 x1 : D) : callD U (n + 1) 110 [x0, x1] = fin (evSs U (callD U n) [.val x0, .val x1, .no, .no, .no] b_told_in) := call_at (par := 2) (N := ["kind", "row", "is_turned", "some", "text"]) (body := b_told_in) (ρ := [.val x0, .val x1, .no, .no, .no]) fn_told_in rfl (by decide) rfl
theorem run_stretches (n : Nat) (x0 : D) : callD U (n + 1) 111 [x0] = fin (evSs U (callD U n) [.val x0, .no, .no, .no, .no, .no] b_stretches) := call_at (par := 1) (N := ["picture", "found", "width", "place", "begin", "rim"]) (body := b_stretches) (ρ := [.val x0, .no, .no, .no, .no, .no]) fn_stretches rfl (by decide) rfl
theorem run_found (n : Nat) (x0 : D) : callD U (n + 1) 112 [x0] = fin (evSs U (callD U n) [.val x0, .no, .no, .no, .no, .no, .no, .no, .no, .no, .no] b_found) := call_at (par := 1) (N := ["picture", "some", "begin", "end", "left", "right", "row", "kind", "rim", "text", "side"]) (body := b_found) (ρ := [.val x0, .no, .no, .no, .no, .no, .no, .no, .no, .no, .no]) fn_found rfl (by decide) rfl
theorem run_law_read_k15 (n : Nat) (x0 x1 : D) : callD U (n + 1) 113 [x0, x1] = fin (evSs U (callD U n) [.val x0, .val x1, .no, .no] b_law_read_k15) := call_at (par := 2) (N := ["kind", "row", "numbers", "text"]) (body := b_law_read_k15) (ρ := [.val x0, .val x1, .no, .no]) fn_law_read_k15 rfl (by decide) rfl
theorem run_law_scan (n : Nat) (x0 : D) : callD U (n + 1) 114 [x0] = fin (evSs U (callD U n) [.val x0, .no, .no, .no, .no, .no, .no, .no, .no, .no, .no, .no, .no, .no, .no, .no, .no] b_law_scan) := call_at (par := 1) (N := ["picture", "begins", "ends", "begin", "gathered", "dark", "end", "left", "right", "row", "k", "kind", "rim", "sign", "one", "text", "other"]) (body := b_law_scan) (ρ := [.val x0, .no, .no, .no, .no, .no, .no, .no, .no, .no, .no, .no, .no, .no, .no, .no, .no]) fn_law_scan rfl (by decide) rfl
theorem run_law_code (n : Nat) (x0 : D) : callD U (n + 1) 115 [x0] = fin (evSs U (callD U n) [.val x0, .no, .no, .no, .no] b_law_code) := call_at (par := 1) (N := ["cell", "way", "text", "row", "figures"]) (body := b_law_code) (ρ := [.val x0, .no, .no, .no, .no]) fn_law_code rfl (by decide) rfl
theorem run_law_picture (n : Nat) (x0 x1 : D) : callD U (n + 1) 116 [x0, x1] = fin (evSs U (callD U n) [.val x0, .val x1, .no, .no, .no, .no, .no, .no] b_law_picture) := call_at (par := 2) (N := ["cell", "many", "gathered", "k", "seed", "kind", "text", "row"]) (body := b_law_picture) (ρ := [.val x0, .val x1, .no, .no, .no, .no, .no, .no]) fn_law_picture rfl (by decide) rfl
theorem run_law_k15 (n : Nat) (x0 : D) : callD U (n + 1) 117 [x0] = fin (evSs U (callD U n) [.val x0, .no, .no, .no, .no, .no] b_law_k15) := call_at (par := 1) (N := ["script", "k", "row", "spots", "picture", "some"]) (body := b_law_k15) (ρ := [.val x0, .no, .no, .no, .no, .no]) fn_law_k15 rfl (by decide) rfl
theorem run_law_end (n : Nat) (x0 x1 : D) : callD U (n + 1) 118 [x0, x1] = fin (evSs U (callD U n) [.val x0, .val x1, .no] b_law_end) := call_at (par := 2) (N := ["picture", "place", "end"]) (body := b_law_end) (ρ := [.val x0, .val x1, .no]) fn_law_end rfl (by decide) rfl
theorem run_law_k16 (n : Nat) (x0 : D) : callD U (n + 1) 119 [x0] = fin (evSs U (callD U n) [.val x0, .no, .no, .no, .no, .no, .no, .no, .no, .no, .no, .no, .no, .no, .no, .no, .no, .no, .no, .no] b_law_k16) := call_at (par := 1) (N := ["script", "k", "cell", "j", "some", "plain_ones", "mirror", "cut", "later", "picture", "due", "cuts", "is_turned", "rim", "kind", "text", "row", "one", "left", "right"]) (body := b_law_k16) (ρ := [.val x0, .no, .no, .no, .no, .no, .no, .no, .no, .no, .no, .no, .no, .no, .no, .no, .no, .no, .no, .no]) fn_law_k16 rfl (by decide) rfl
theorem run_end_of (n : Nat) (x0 x1 : D) : callD U (n + 1) 120 [x0, x1] = fin (evSs U (callD U n) [.val x0, .val x1, .no, .no, .no, .no] b_end_of) := call_at (par := 2) (N := ["picture", "one", "begin", "end", "left", "right"]) (body := b_end_of) (ρ := [.val x0, .val x1, .no, .no, .no, .no]) fn_end_of rfl (by decide) rfl
theorem run_law_end_k17 (n : Nat) (x0 x1 : D) : callD U (n + 1) 122 [x0, x1] = fin (evSs U (callD U n) [.val x0, .val x1, .no] b_law_end_k17) := call_at (par := 2) (N := ["picture", "place", "end"]) (body := b_law_end_k17) (ρ := [.val x0, .val x1, .no]) fn_law_end_k17 rfl (by decide) rfl
theorem run_told_by_k19 (n : Nat) (x0 x1 : D) : callD U (n + 1) 125 [x0, x1] = fin (evSs U (callD U n) [.val x0, .val x1] b_told_by_k19) := call_at (par := 2) (N := ["read", "row"]) (body := b_told_by_k19) (ρ := [.val x0, .val x1]) fn_told_by_k19 rfl (by decide) rfl
theorem run_kinds_for (n : Nat) (x0 : D) : callD U (n + 1) 127 [x0] = fin (evSs U (callD U n) [.val x0, .no] b_kinds_for) := call_at (par := 1) (N := ["text", "kind"]) (body := b_kinds_for) (ρ := [.val x0, .no]) fn_kinds_for rfl (by decide) rfl
theorem run_best (n : Nat) (x0 : D) : callD U (n + 1) 128 [x0] = fin (evSs U (callD U n) [.val x0, .no, .no] b_best) := call_at (par := 1) (N := ["text", "some", "kind"]) (body := b_best) (ρ := [.val x0, .no, .no]) fn_best rfl (by decide) rfl
theorem run_power_of_ten (n : Nat) (x0 : D) : callD U (n + 1) 129 [x0] = fin (evSs U (callD U n) [.val x0, .no, .no] b_power_of_ten) := call_at (par := 1) (N := ["many", "found", "turn"]) (body := b_power_of_ten) (ρ := [.val x0, .no, .no]) fn_power_of_ten rfl (by decide) rfl
theorem run_many_texts (n : Nat) (x0 x1 : D) : callD U (n + 1) 130 [x0, x1] = fin (evSs U (callD U n) [.val x0, .val x1, .no, .no, .no] b_many_texts) := call_at (par := 2) (N := ["kind", "spots", "lengths", "figures", "wide"]) (body := b_many_texts) (ρ := [.val x0, .val x1, .no, .no, .no]) fn_many_texts rfl (by decide) rfl
theorem run_law_said_k19 (n : Nat) (x0 x1 x2 : D) : callD U (n + 1) 131 [x0, x1, x2] = fin (evSs U (callD U n) [.val x0, .val x1, .val x2, .no] b_law_said_k19) := call_at (par := 3) (N := ["way", "one", "other", "e"]) (body := b_law_said_k19) (ρ := [.val x0, .val x1, .val x2, .no]) fn_law_said_k19 rfl (by decide) rfl
theorem run_law_rows (n : Nat) (x0 : D) : callD U (n + 1) 132 [x0] = fin (evSs U (callD U n) [.val x0, .no, .no, .no] b_law_rows) := call_at (par := 1) (N := ["text", "gathered", "are_figures_all", "sign"]) (body := b_law_rows) (ρ := [.val x0, .no, .no, .no]) fn_law_rows rfl (by decide) rfl
theorem run_law_k19 (n : Nat) (x0 : D) : callD U (n + 1) 133 [x0] = fin (evSs U (callD U n) [.val x0, .no, .no, .no, .no, .no, .no, .no, .no, .no, .no, .no, .no] b_law_k19) := call_at (par := 1) (N := ["script", "k", "cell", "texts", "text", "spots", "kind", "some", "due", "least", "many", "one", "row"]) (body := b_law_k19) (ρ := [.val x0, .no, .no, .no, .no, .no, .no, .no, .no, .no, .no, .no, .no]) fn_law_k19 rfl (by decide) rfl
theorem run_is_pair (n : Nat) (x0 : D) : callD U (n + 1) 134 [x0] = fin (evSs U (callD U n) [.val x0, .no] b_is_pair) := call_at (par := 1) (N := ["thing", "one"]) (body := b_is_pair) (ρ := [.val x0, .no]) fn_is_pair rfl (by decide) rfl
theorem run_is_label (n : Nat) (x0 : D) : callD U (n + 1) 135 [x0] = fin (evSs U (callD U n) [.val x0, .no] b_is_label) := call_at (par := 1) (N := ["thing", "one"]) (body := b_is_label) (ρ := [.val x0, .no]) fn_is_label rfl (by decide) rfl
theorem run_label_picture (n : Nat) (x0 : D) : callD U (n + 1) 136 [x0] = fin (evSs U (callD U n) [.val x0, .no, .no] b_label_picture) := call_at (par := 1) (N := ["label", "kind", "text"]) (body := b_label_picture) (ρ := [.val x0, .no, .no]) fn_label_picture rfl (by decide) rfl
theorem run_label_text (n : Nat) (x0 : D) : callD U (n + 1) 137 [x0] = fin (evSs U (callD U n) [.val x0, .no, .no] b_label_text) := call_at (par := 1) (N := ["label", "kind", "text"]) (body := b_label_text) (ρ := [.val x0, .no, .no]) fn_label_text rfl (by decide) rfl
theorem run_read_label (n : Nat) (x0 : D) : callD U (n + 1) 138 [x0] = fin (evSs U (callD U n) [.val x0, .no, .no, .no, .no, .no, .no] b_read_label) := call_at (par := 1) (N := ["text", "rows", "found", "row", "kind", "between", "rest"]) (body := b_read_label) (ρ := [.val x0, .no, .no, .no, .no, .no, .no]) fn_read_label rfl (by decide) rfl
theorem run_law_label (n : Nat) (x0 : D) : callD U (n + 1) 139 [x0] = fin (evSs U (callD U n) [.val x0, .no, .no, .no, .no, .no] b_law_label) := call_at (par := 1) (N := ["cell", "gathered", "k", "seed", "kind", "text"]) (body := b_law_label) (ρ := [.val x0, .no, .no, .no, .no, .no]) fn_law_label rfl (by decide) rfl
theorem run_law_is_label (n : Nat) (x0 : D) : callD U (n + 1) 140 [x0] = fin (evSs U (callD U n) [.val x0, .no, .no] b_law_is_label) := call_at (par := 1) (N := ["thing", "one", "part"]) (body := b_law_is_label) (ρ := [.val x0, .no, .no]) fn_law_is_label rfl (by decide) rfl
theorem run_law_read_k20 (n : Nat) (x0 : D) : callD U (n + 1) 141 [x0] = fin (evSs U (callD U n) [.val x0] b_law_read_k20) := call_at (par := 1) (N := ["here"]) (body := b_law_read_k20) (ρ := [.val x0]) fn_law_read_k20 rfl (by decide) rfl
theorem run_law_k20 (n : Nat) (x0 : D) : callD U (n + 1) 142 [x0] = fin (evSs U (callD U n) [.val x0, .no, .no, .no, .no, .no, .no, .no, .no, .no, .no, .no] b_law_k20) := call_at (par := 1) (N := ["script", "k", "cell", "label", "some", "j", "thing", "picture", "here", "kind", "text", "row"]) (body := b_law_k20) (ρ := [.val x0, .no, .no, .no, .no, .no, .no, .no, .no, .no, .no, .no]) fn_law_k20 rfl (by decide) rfl
theorem run_wall (n : Nat) (x0 : D) : callD U (n + 1) 143 [x0] = fin (evSs U (callD U n) [.val x0] b_wall) := call_at (par := 1) (N := ["k"]) (body := b_wall) (ρ := [.val x0]) fn_wall rfl (by decide) rfl
theorem run_law_label_k21 (n : Nat) (x0 : D) : callD U (n + 1) 144 [x0] = fin (evSs U (callD U n) [.val x0, .no, .no, .no, .no, .no, .no] b_law_label_k21) := call_at (par := 1) (N := ["cell", "gathered", "k", "seed", "some", "text", "kinds"]) (body := b_law_label_k21) (ρ := [.val x0, .no, .no, .no, .no, .no, .no]) fn_law_label_k21 rfl (by decide) rfl
theorem run_law_said_k21 (n : Nat) (x0 : D) : callD U (n + 1) 145 [x0] = fin (evSs U (callD U n) [.val x0, .no] b_law_said_k21) := call_at (par := 1) (N := ["here", "e"]) (body := b_law_said_k21) (ρ := [.val x0, .no]) fn_law_said_k21 rfl (by decide) rfl
theorem run_law_said_k22 (n : Nat) (x0 x1 : D) : callD U (n + 1) 147 [x0, x1] = fin (evSs U (callD U n) [.val x0, .val x1] b_law_said_k22) := call_at (par := 2) (N := ["kind", "row"]) (body := b_law_said_k22) (ρ := [.val x0, .val x1]) fn_law_said_k22 rfl (by decide) rfl
theorem run_law_once (n : Nat) (x0 : D) : callD U (n + 1) 148 [x0] = fin (evSs U (callD U n) [.val x0, .no, .no, .no, .no, .no, .no, .no, .no, .no, .no, .no, .no, .no, .no, .no] b_law_once) := call_at (par := 1) (N := ["script", "least", "k", "cell", "first", "rows", "spots", "place", "near", "whole", "figures", "text", "kind", "row", "one", "other"]) (body := b_law_once) (ρ := [.val x0, .no, .no, .no, .no, .no, .no, .no, .no, .no, .no, .no, .no, .no, .no, .no]) fn_law_once rfl (by decide) rfl
theorem run_law_k22 (n : Nat) (x0 : D) : callD U (n + 1) 149 [x0] = fin (evSs U (callD U n) [.val x0, .no] b_law_k22) := call_at (par := 1) (N := ["script", "cell"]) (body := b_law_k22) (ρ := [.val x0, .no]) fn_law_k22 rfl (by decide) rfl
theorem run_kinds_for_k23 (n : Nat) (x0 : D) : callD U (n + 1) 151 [x0] = fin (evSs U (callD U n) [.val x0, .no] b_kinds_for_k23) := call_at (par := 1) (N := ["text", "kind"]) (body := b_kinds_for_k23) (ρ := [.val x0, .no]) fn_kinds_for_k23 rfl (by decide) rfl
theorem run_best_k23 (n : Nat) (x0 : D) : callD U (n + 1) 152 [x0] = fin (evSs U (callD U n) [.val x0, .no, .no] b_best_k23) := call_at (par := 1) (N := ["text", "some", "kind"]) (body := b_best_k23) (ρ := [.val x0, .no, .no]) fn_best_k23 rfl (by decide) rfl
theorem run_is_pair_k23 (n : Nat) (x0 : D) : callD U (n + 1) 153 [x0] = fin (evSs U (callD U n) [.val x0, .no] b_is_pair_k23) := call_at (par := 1) (N := ["thing", "one"]) (body := b_is_pair_k23) (ρ := [.val x0, .no]) fn_is_pair_k23 rfl (by decide) rfl
theorem run_is_label_k23 (n : Nat) (x0 : D) : callD U (n + 1) 154 [x0] = fin (evSs U (callD U n) [.val x0, .no] b_is_label_k23) := call_at (par := 1) (N := ["thing", "one"]) (body := b_is_label_k23) (ρ := [.val x0, .no]) fn_is_label_k23 rfl (by decide) rfl
theorem run_label_picture_k23 (n : Nat) (x0 : D) : callD U (n + 1) 155 [x0] = fin (evSs U (callD U n) [.val x0, .no, .no] b_label_picture_k23) := call_at (par := 1) (N := ["label", "kind", "text"]) (body := b_label_picture_k23) (ρ := [.val x0, .no, .no]) fn_label_picture_k23 rfl (by decide) rfl
theorem run_read_label_k23 (n : Nat) (x0 : D) : callD U (n + 1) 156 [x0] = fin (evSs U (callD U n) [.val x0, .no, .no, .no, .no, .no, .no] b_read_label_k23) := call_at (par := 1) (N := ["text", "rows", "found", "row", "kind", "between", "rest"]) (body := b_read_label_k23) (ρ := [.val x0, .no, .no, .no, .no, .no, .no]) fn_read_label_k23 rfl (by decide) rfl
theorem run_law_is_refused (n : Nat) (x0 : D) : callD U (n + 1) 159 [x0] = fin (evSs U (callD U n) [.val x0, .no] b_law_is_refused) := call_at (par := 1) (N := ["picture", "e"]) (body := b_law_is_refused) (ρ := [.val x0, .no]) fn_law_is_refused rfl (by decide) rfl
theorem run_law_k25 (n : Nat) (x0 : D) : callD U (n + 1) 160 [x0] = fin (evSs U (callD U n) [.val x0, .no, .no, .no, .no, .no, .no, .no, .no, .no, .no, .no, .no, .no, .no] b_law_k25) := call_at (par := 1) (N := ["script", "k", "cell", "picture", "great", "both", "row", "other", "rim", "times", "gap", "mine", "yours", "n", "sign"]) (body := b_law_k25) (ρ := [.val x0, .no, .no, .no, .no, .no, .no, .no, .no, .no, .no, .no, .no, .no, .no]) fn_law_k25 rfl (by decide) rfl
theorem run_law_k26 (n : Nat) (x0 : D) : callD U (n + 1) 161 [x0] = fin (evSs U (callD U n) [.val x0, .no, .no, .no, .no, .no, .no, .no, .no, .no, .no, .no, .no, .no, .no] b_law_k26) := call_at (par := 1) (N := ["script", "k", "cell", "figures", "check", "whole", "n", "quiet", "values", "others", "by", "both", "other", "about", "one"]) (body := b_law_k26) (ρ := [.val x0, .no, .no, .no, .no, .no, .no, .no, .no, .no, .no, .no, .no, .no, .no]) fn_law_k26 rfl (by decide) rfl
theorem run_law_k27 (n : Nat) (x0 : D) : callD U (n + 1) 162 [x0] = fin (evSs U (callD U n) [.val x0, .no, .no, .no, .no, .no, .no, .no, .no, .no, .no] b_law_k27) := call_at (par := 1) (N := ["script", "k", "cell", "many", "figures", "wide", "twelve", "row", "inner", "n", "width"]) (body := b_law_k27) (ρ := [.val x0, .no, .no, .no, .no, .no, .no, .no, .no, .no, .no]) fn_law_k27 rfl (by decide) rfl
theorem run_law_k28 (n : Nat) (x0 : D) : callD U (n + 1) 163 [x0] = fin (evSs U (callD U n) [.val x0, .no, .no, .no, .no, .no, .no, .no, .no, .no, .no, .no, .no] b_law_k28) := call_at (par := 1) (N := ["script", "signs", "k", "numbers", "row", "told", "text", "number", "first", "lead", "due", "sign", "n"]) (body := b_law_k28) (ρ := [.val x0, .no, .no, .no, .no, .no, .no, .no, .no, .no, .no, .no, .no]) fn_law_k28 rfl (by decide) rfl
theorem run_law_mended (n : Nat) (x0 : D) : callD U (n + 1) 164 [x0] = fin (evSs U (callD U n) [.val x0] b_law_mended) := call_at (par := 1) (N := ["row"]) (body := b_law_mended) (ρ := [.val x0]) fn_law_mended rfl (by decide) rfl
theorem run_law_is_code (n : Nat) (x0 : D) : callD U (n + 1) 165 [x0] = fin (evSs U (callD U n) [.val x0] b_law_is_code) := call_at (par := 1) (N := ["row"]) (body := b_law_is_code) (ρ := [.val x0]) fn_law_is_code rfl (by decide) rfl
theorem run_law_k30 (n : Nat) (x0 : D) : callD U (n + 1) 167 [x0] = fin (evSs U (callD U n) [.val x0, .no, .no, .no, .no, .no, .no, .no, .no, .no, .no, .no, .no, .no] b_law_k30) := call_at (par := 1) (N := ["script", "k", "cell", "more", "later", "behind", "back", "label", "other", "picture", "told", "one", "again", "wide"]) (body := b_law_k30) (ρ := [.val x0, .no, .no, .no, .no, .no, .no, .no, .no, .no, .no, .no, .no, .no]) fn_law_k30 rfl (by decide) rfl
theorem run_law_pieces (n : Nat) (x0 x1 : D) : callD U (n + 1) 169 [x0, x1] = fin (evSs U (callD U n) [.val x0, .val x1, .no, .no, .no] b_law_pieces) := call_at (par := 2) (N := ["picture", "cell", "pieces", "place", "end"]) (body := b_law_pieces) (ρ := [.val x0, .val x1, .no, .no, .no]) fn_law_pieces rfl (by decide) rfl
end Bg

set_option Elab.async false
set_option linter.all false
set_option maxRecDepth 100000
set_option maxHeartbeats 4000000
/-! The evaluator, step by step: rules to rewrite by. -/
namespace Bg
open PySem

def slotV : Option Sl → Res D
  | some (.val d) => .ok d
  | _ => .no
def slotO : Option Sl → Res D
  | some (.own ds) => .ok (.list ds)
  | _ => .no
def conV : Option (Str × D) → Res D
  | some c => .ok c.2
  | none => .no
def fnV : Option Fd → Res D
  | some f => .ok (fnD f.name)
  | none => .no
theorem slotV_val (d : D) : slotV (some (.val d)) = .ok d := rfl
theorem slotO_own (d : List D) : slotO (some (.own d)) = .ok (.list d) := rfl
theorem conV_some (c : Str × D) : conV (some c) = .ok c.2 := rfl
theorem fnV_some (f : Fd) : fnV (some f) = .ok (fnD f.name) := rfl
def k2 (f : D → D → Option D) (a b : Res D) : Res D := a.bind fun x => b.bind fun y => .ofO (f x y)
theorem k2_ok (f : D → D → Option D) (x y : D) : k2 f (.ok x) (.ok y) = .ofO (f x y) := by
  unfold k2
  rw [Res.bind_ok, Res.bind_ok]
def kNeg (a : Res D) : Res D := a.bind fun x => (asInt x).bind fun i => .ok (.int (-i))
theorem kNeg_ok (i : Int) : kNeg (.ok (.int i)) = .ok (.int (-i)) := rfl
def kNot (a : Res D) : Res D := a.bind fun x => (Res.ofO (truth x)).bind fun k => .ok (.bool (!k))
def kNot2 (o : Option Bool) : Res D := (Res.ofO o).bind fun k => .ok (.bool (!k))
theorem kNot_ok (x : D) : kNot (.ok x) = kNot2 (truth x) := rfl
theorem kNot2_ok (k : Bool) : kNot2 (some k) = .ok (.bool (!k)) := rfl
def kTup (a : Res (List D)) : Res D := a.bind fun ds => .ok (.tuple ds)
theorem kTup_ok (ds : List D) : kTup (.ok ds) = .ok (.tuple ds) := rfl
def kLst (a : Res (List D)) : Res D := a.bind fun ds => .ok (.list ds)
theorem kLst_ok (ds : List D) : kLst (.ok ds) = .ok (.list ds) := rfl
def kCons (a : Res D) (b : Res (List D)) : Res (List D) := a.bind fun d => b.bind fun ds => .ok (d :: ds)
theorem kCons_ok (d : D) (ds : List D) : kCons (.ok d) (.ok ds) = .ok (d :: ds) := rfl
def kSl (f : D → Option Int → Option Int → Option D) (a : Res D) (l h : Res (Option Int)) : Res D := a.bind fun x => l.bind fun l => h.bind fun h => .ofO (f x l h)
theorem kSl_ok (f : D → Option Int → Option Int → Option D) (x : D) (l h : Option Int) : kSl f (.ok x) (.ok l) (.ok h) = .ofO (f x l h) := rfl
def kOx (a : Res D) : Res (Option Int) := a.bind fun d => (asInt d).bind fun i => .ok (some i)
theorem kOx_ok (i : Int) : kOx (.ok (.int i)) = .ok (some i) := rfl
def kAp (f : List D → Res D) (a : Res (List D)) : Res D := a.bind f
/-- not by rfl alone: the kernel is never to run a def -/
theorem kAp_ok (f : List D → Res D) (ds : List D) : kAp f (.ok ds) = f ds := by
  unfold kAp
  rw [Res.bind_ok]
theorem kAp_ex (f : List D → Res D) (c : Nat) : kAp f (.ex c) = .ex c := rfl
def kBc (f : List D → Option D) (a : Res (List D)) : Res D := a.bind fun ds => .ofO (f ds)
theorem kBc_ok (f : List D → Option D) (ds : List D) : kBc f (.ok ds) = .ofO (f ds) := rfl
def kMt (m : Mn) (o : Res D) (a : Res (List D)) : Res D := o.bind fun x => match rcv m x with
  | true => a.bind fun ds => .ofO (mtd m x ds)
  | false => .no
theorem kMt_ok {m : Mn} {x : D} {ds : List D} (h : rcv m x = true) : kMt m (.ok x) (.ok ds) = .ofO (mtd m x ds) := by
  simp only [kMt, Res.bind_ok, h]
def kLc (f : D → Res (Option D)) (a : Res (List D)) : Res D := a.bind fun items => (collect f items).bind fun ds => .ok (.list ds)
def kLc2 (a : Res (List D)) : Res D := a.bind fun ds => .ok (.list ds)
theorem kLc_ok (f : D → Res (Option D)) (items : List D) : kLc f (.ok items) = kLc2 (collect f items) := rfl
theorem kLc2_ok (ds : List D) : kLc2 (.ok ds) = .ok (.list ds) := rfl
def kTru (a : Res D) : Res Bool := a.bind fun d => .ofO (truth d)
theorem kTru_ok (d : D) : kTru (.ok d) = .ofO (truth d) := rfl
theorem kTru_ex (c : Nat) : kTru (.ex c) = .ex c := rfl
def kIt (a : Res D) : Res (List D) := a.bind fun d => .ofO (itemsOf d)
theorem kIt_ok (d : D) : kIt (.ok d) = .ofO (itemsOf d) := rfl
def kRng (a : Res (List D)) : Res (List D) := a.bind fun ds => .ofO (rngD ds)
theorem kRng_ok (ds : List D) : kRng (.ok ds) = .ofO (rngD ds) := rfl
def kEnum (a : Res (List D)) : Res (List D) := a.bind fun ds => .ok (enumD 0 ds)
theorem kEnum_ok (ds : List D) : kEnum (.ok ds) = .ok (enumD 0 ds) := rfl
def kZip (a b : Res (List D)) : Res (List D) := a.bind fun x => b.bind fun y => .ok (zipD x y)
theorem kZip_ok (a b : List D) : kZip (.ok a) (.ok b) = .ok (zipD a b) := rfl
section
variable (P : Pt) (cl : Nat → List D → Res D) (ρ : List Sl)
def kAnd2 (b : Ex) (x : D) : Option Bool → Res D
  | some true => evE P cl ρ b
  | some false => .ok x
  | none => .no
def kAnd (b : Ex) : Res D → Res D
  | .ok x => kAnd2 P cl ρ b x (truth x)
  | .ex c => .ex c
  | .no => .no
theorem kAnd_ok (b : Ex) (x : D) : kAnd P cl ρ b (.ok x) = kAnd2 P cl ρ b x (truth x) := rfl
theorem kAnd2_t (b : Ex) (x : D) : kAnd2 P cl ρ b x (some true) = evE P cl ρ b := rfl
theorem kAnd2_f (b : Ex) (x : D) : kAnd2 P cl ρ b x (some false) = .ok x := rfl
def kOr2 (b : Ex) (x : D) : Option Bool → Res D
  | some false => evE P cl ρ b
  | some true => .ok x
  | none => .no
def kOr (b : Ex) : Res D → Res D
  | .ok x => kOr2 P cl ρ b x (truth x)
  | .ex c => .ex c
  | .no => .no
theorem kOr_ok (b : Ex) (x : D) : kOr P cl ρ b (.ok x) = kOr2 P cl ρ b x (truth x) := rfl
theorem kOr2_f (b : Ex) (x : D) : kOr2 P cl ρ b x (some false) = evE P cl ρ b := rfl
theorem kOr2_t (b : Ex) (x : D) : kOr2 P cl ρ b x (some true) = .ok x := rfl
def kIte (a b : Ex) : Res Bool → Res D
  | .ok true => evE P cl ρ a
  | .ok false => evE P cl ρ b
  | .ex c => .ex c
  | .no => .no
theorem kIte_t (a b : Ex) : kIte P cl ρ a b (.ok true) = evE P cl ρ a := rfl
theorem kIte_f (a b : Ex) : kIte P cl ρ a b (.ok false) = evE P cl ρ b := rfl
def kChn2 (o2 : Cop) (c : Ex) (y : D) : Option D → Res D
  | some (.bool true) => k2 (cop o2) (.ok y) (evE P cl ρ c)
  | some (.bool false) => .ok (.bool false)
  | _ => .no
def kChn (o1 o2 : Cop) (c : Ex) (a b : Res D) : Res D := a.bind fun x => b.bind fun y => kChn2 P cl ρ o2 c y (cop o1 x y)
theorem kChn_ok (o1 o2 : Cop) (c : Ex) (x y : D) : kChn P cl ρ o1 o2 c (.ok x) (.ok y) = kChn2 P cl ρ o2 c y (cop o1 x y) := rfl
theorem kChn2_t (o2 : Cop) (c : Ex) (y : D) : kChn2 P cl ρ o2 c y (some (.bool true)) = k2 (cop o2) (.ok y) (evE P cl ρ c) := rfl
theorem kChn2_f (o2 : Cop) (c : Ex) (y : D) : kChn2 P cl ρ o2 c y (some (.bool false)) = .ok (.bool false) := rfl
theorem e_var (i : Nat) : evE P cl ρ (.var i) = slotV ρ[i]? := by
  simp only [evE]
  cases h : ρ[i]? with
  | none => rfl
  | some s => cases s <;> rfl
theorem e_pk (i : Nat) : evE P cl ρ (.pk i) = slotO ρ[i]? := by
  simp only [evE]
  cases h : ρ[i]? with
  | none => rfl
  | some s => cases s <;> rfl
theorem e_con (i : Nat) : evE P cl ρ (.con i) = conV (P.con i) := by
  simp only [evE]
  cases h : P.con i <;> rfl
theorem e_fn (i : Nat) : evE P cl ρ (.fn i) = fnV (P.fn i) := by
  simp only [evE]
  cases h : P.fn i <;> rfl
theorem e_ty (i : Int) : evE P cl ρ (.ty i) = .ok (tyD i) := by simp only [evE]
theorem e_int (i : Int) : evE P cl ρ (.int i) = .ok (.int i) := by simp only [evE]
theorem e_str (i : Str) : evE P cl ρ (.str i) = .ok (.str i) := by simp only [evE]
theorem e_bl (i : Bool) : evE P cl ρ (.bl i) = .ok (.bool i) := by simp only [evE]
theorem e_non : evE P cl ρ .non = .ok .none := by simp only [evE]
theorem e_tup (es : Exs) : evE P cl ρ (.tup es) = kTup (evL P cl ρ es) := by simp only [evE]; rfl
theorem e_lst (es : Exs) : evE P cl ρ (.lst es) = kLst (evL P cl ρ es) := by simp only [evE]; rfl
theorem e_bin (op : Bop) (a b : Ex) : evE P cl ρ (.bin op a b) = k2 (bop op) (evE P cl ρ a) (evE P cl ρ b) := by simp only [evE]; rfl
theorem e_neg (a : Ex) : evE P cl ρ (.neg a) = kNeg (evE P cl ρ a) := by simp only [evE]; rfl
theorem e_not (a : Ex) : evE P cl ρ (.not a) = kNot (evE P cl ρ a) := by simp only [evE]; rfl
theorem e_and (a b : Ex) : evE P cl ρ (.and a b) = kAnd P cl ρ b (evE P cl ρ a) := by
  simp only [evE]
  cases evE P cl ρ a with
  | ok x =>
    simp only [Res.bind_ok, kAnd]
    cases truth x with
    | none => rfl
    | some k => cases k <;> rfl
  | ex c => rfl
  | no => rfl
theorem e_or (a b : Ex) : evE P cl ρ (.or a b) = kOr P cl ρ b (evE P cl ρ a) := by
  simp only [evE]
  cases evE P cl ρ a with
  | ok x =>
    simp only [Res.bind_ok, kOr]
    cases truth x with
    | none => rfl
    | some k => cases k <;> rfl
  | ex c => rfl
  | no => rfl
theorem e_one (a : Ex) : evE P cl ρ (.one a) = evE P cl ρ a := by simp only [evE]
theorem e_cmp (op : Cop) (a b : Ex) : evE P cl ρ (.cmp op a b) = k2 (cop op) (evE P cl ρ a) (evE P cl ρ b) := by simp only [evE]; rfl
theorem e_chn (o1 o2 : Cop) (a b c : Ex) : evE P cl ρ (.chn o1 o2 a b c) = kChn P cl ρ o1 o2 c (evE P cl ρ a) (evE P cl ρ b) := by
  simp only [evE, kChn]
  cases evE P cl ρ a with
  | ok x =>
    simp only [Res.bind_ok]
    cases evE P cl ρ b with
    | ok y =>
      simp only [Res.bind_ok]
      cases cop o1 x y with
      | none => rfl
      | some d =>
        cases d with
        | bool k => cases k <;> rfl
        | _ => rfl
    | ex c => rfl
    | no => rfl
  | ex c => rfl
  | no => rfl
theorem e_ite (c a b : Ex) : evE P cl ρ (.ite c a b) = kIte P cl ρ a b (kTru (evE P cl ρ c)) := by
  simp only [evE]
  cases evE P cl ρ c with
  | ok x =>
    simp only [Res.bind_ok, kTru]
    cases truth x with
    | none => rfl
    | some k => cases k <;> rfl
  | ex c => rfl
  | no => rfl
theorem e_sub (a i : Ex) : evE P cl ρ (.sub a i) = k2 ixD (evE P cl ρ a) (evE P cl ρ i) := by simp only [evE]; rfl
theorem e_sl (a : Ex) (lo hi : Ox) : evE P cl ρ (.sl a lo hi) = kSl slD (evE P cl ρ a) (evO P cl ρ lo) (evO P cl ρ hi) := by simp only [evE]; rfl
theorem e_sls (a : Ex) (lo hi : Ox) (st : Int) : evE P cl ρ (.sls a lo hi st) = kSl (fun x l h => slsD x l h st) (evE P cl ρ a) (evO P cl ρ lo) (evO P cl ρ hi) := by simp only [evE]; rfl
theorem e_call (f : Nat) (as : Exs) : evE P cl ρ (.call f as) = kAp (cl f) (evL P cl ρ as) := by simp only [evE]; rfl
theorem e_bc (f : Bn) (as : Exs) : evE P cl ρ (.bc f as) = kBc (bfn f) (evL P cl ρ as) := by simp only [evE]; rfl
theorem e_mt (m : Mn) (o : Ex) (as : Exs) : evE P cl ρ (.mt m o as) = kMt m (evE P cl ρ o) (evL P cl ρ as) := by simp only [evE]; rfl
def lcG (t : Tg) (c : Oc) (e : Ex) (d : D) : Res (Option D) := match bindT (wipeR ρ t.slots) t d with
  | some ρ' => (calm (evC P cl ρ' c)).bind fun k => match k with
    | true => (calm (evE P cl ρ' e)).bind fun y => .ok (some y)
    | false => .ok none
  | none => .no
theorem e_lc (t : Tg) (s : Sr) (c : Oc) (e : Ex) : evE P cl ρ (.lc t s c e) = kLc (lcG P cl ρ t c e) (evR P cl ρ s) := by simp only [evE]; rfl
theorem l_nil : evL P cl ρ .nil = .ok [] := by simp only [evL]
theorem l_cons (e : Ex) (es : Exs) : evL P cl ρ (.cons e es) = kCons (evE P cl ρ e) (evL P cl ρ es) := by simp only [evL]; rfl
theorem o_no : evO P cl ρ .no = .ok none := by simp only [evO]
theorem o_some (e : Ex) : evO P cl ρ (.some e) = kOx (evE P cl ρ e) := by simp only [evO]; rfl
theorem k_no : evC P cl ρ .no = .ok true := by simp only [evC]
theorem k_some (e : Ex) : evC P cl ρ (.some e) = kTru (evE P cl ρ e) := by simp only [evC]; rfl
theorem r_it (e : Ex) : evR P cl ρ (.it e) = kIt (evE P cl ρ e) := by simp only [evR]; rfl
theorem r_rng (as : Exs) : evR P cl ρ (.rng as) = kRng (evL P cl ρ as) := by simp only [evR]; rfl
theorem r_enum (e : Ex) : evR P cl ρ (.enum e) = kEnum (kIt (evE P cl ρ e)) := by
  simp only [evR]
  cases evE P cl ρ e <;> rfl
/-- the right one's value comes ahead of the left one's items -/
theorem r_zip {a b : Ex} {x y : D} (h1 : evE P cl ρ a = .ok x) (h2 : evE P cl ρ b = .ok y) : evR P cl ρ (.zip a b) = kZip (.ofO (itemsOf x)) (.ofO (itemsOf y)) := by
  simp only [evR, h1, h2, Res.bind_ok]; rfl
def kSeq (r : Sxs) : Out → Out
  | .nx ρ => evSs P cl ρ r
  | .ret d => .ret d
  | .ex c ρ => .ex c ρ
  | .no => .no
theorem kSeq_nx (r : Sxs) : kSeq P cl r (.nx ρ) = evSs P cl ρ r := rfl
theorem kSeq_ret (r : Sxs) (d : D) : kSeq P cl r (.ret d) = .ret d := rfl
theorem kSeq_ex (r : Sxs) (c : Nat) : kSeq P cl r (.ex c ρ) = .ex c ρ := rfl
def kSt {α : Type} (f : α → Out) : Res α → Out
  | .ok a => f a
  | .ex c => .ex c ρ
  | .no => .no
theorem kSt_ex {α : Type} (f : α → Out) (c : Nat) : kSt ρ f (.ex c) = .ex c ρ := rfl
def fSet (i : Nat) (d : D) : Out := .nx (ρ.set i (.val d))
def fOwn (i : Nat) : D → Out
  | .list ds => .nx (ρ.set i (.own ds))
  | _ => .no
def fOpt : Option (List Sl) → Out
  | some ρ => .nx ρ
  | none => .no
theorem fOpt_some : fOpt (some ρ) = .nx ρ := rfl
def fDrop (_ : D) : Out := .nx ρ
def fPar (ts : List (Nat × Bool)) (ds : List D) : Out := fOpt (parGo ρ ts ds)
def fUnp (is : List Nat) (d : D) : Out := fOpt (bindT ρ (.tup is) d)
theorem kSt_set (i : Nat) (d : D) : kSt ρ (fSet ρ i) (.ok d) = .nx (ρ.set i (.val d)) := rfl
theorem kSt_own (i : Nat) (ds : List D) : kSt ρ (fOwn ρ i) (.ok (.list ds)) = .nx (ρ.set i (.own ds)) := rfl
theorem kSt_par (ts : List (Nat × Bool)) (ds : List D) : kSt ρ (fPar ρ ts) (.ok ds) = fOpt (parGo ρ ts ds) := rfl
theorem kSt_unp (is : List Nat) (d : D) : kSt ρ (fUnp ρ is) (.ok d) = fOpt (bindT ρ (.tup is) d) := rfl
theorem kSt_ret (d : D) : kSt ρ Out.ret (.ok d) = .ret d := rfl
theorem kSt_drop (d : D) : kSt ρ (fDrop ρ) (.ok d) = .nx ρ := rfl
def fIte (a b : Sxs) : Bool → Out
  | true => evSs P cl ρ a
  | false => evSs P cl ρ b
theorem kSt_t (a b : Sxs) : kSt ρ (fIte P cl ρ a b) (.ok true) = evSs P cl ρ a := rfl
theorem kSt_f (a b : Sxs) : kSt ρ (fIte P cl ρ a b) (.ok false) = evSs P cl ρ b := rfl
def forF (t : Tg) (b : Sxs) (ρ : List Sl) (d : D) : Out := match bindT ρ t d with | some ρ' => evSs P cl ρ' b | none => .no
def fFor (t : Tg) (b : Sxs) (items : List D) : Out := forGo (forF P cl t b) items ρ
theorem kSt_for (t : Tg) (b : Sxs) (items : List D) : kSt ρ (fFor P cl ρ t b) (.ok items) = forGo (forF P cl t b) items ρ := rfl
theorem q_nil' : evSs P cl ρ .nil = .nx ρ := by simp only [evSs]
theorem q_cons' (s : Sx) (r : Sxs) : evSs P cl ρ (.cons s r) = kSeq P cl r (evS P cl ρ s) := by
  simp only [evSs]
  cases evS P cl ρ s <;> rfl
theorem s_ex' (x : Ex) : evS P cl ρ (.ex x) = kSt ρ (fDrop ρ) (evE P cl ρ x) := by
  simp only [evS]
  cases evE P cl ρ x <;> rfl
theorem s_set' (i : Nat) (x : Ex) : evS P cl ρ (.set i x) = kSt ρ (fSet ρ i) (evE P cl ρ x) := by
  simp only [evS]
  cases evE P cl ρ x <;> rfl
theorem s_own' (i : Nat) (x : Ex) : evS P cl ρ (.own i x) = kSt ρ (fOwn ρ i) (evE P cl ρ x) := by
  simp only [evS]
  cases evE P cl ρ x with
  | ok d => cases d <;> rfl
  | _ => rfl
theorem s_par' (ts : List (Nat × Bool)) (xs : Exs) : evS P cl ρ (.par ts xs) = kSt ρ (fPar ρ ts) (evL P cl ρ xs) := by
  simp only [evS]
  cases evL P cl ρ xs with
  | ok d =>
    simp only [Out.of, kSt, fPar]
    cases parGo ρ ts d <;> rfl
  | _ => rfl
theorem s_unp' (is : List Nat) (x : Ex) : evS P cl ρ (.unp is x) = kSt ρ (fUnp ρ is) (evE P cl ρ x) := by
  simp only [evS]
  cases evE P cl ρ x with
  | ok d =>
    simp only [Out.of, kSt, fUnp]
    cases bindT ρ (.tup is) d <;> rfl
  | _ => rfl
def appV (i : Nat) (o : Option Sl) (r : Res D) : Out := match o with
  | some (.own ds) => .of ρ r fun d => if ds.length + 1 ≤ 1000000 then .nx (ρ.set i (.own (ds ++ [d]))) else .no
  | _ => .no
theorem appV_own {i : Nat} {d : D} {ds : List D} (h : ds.length + 1 ≤ 1000000) : appV ρ i (some (.own ds)) (.ok d) = .nx (ρ.set i (.own (ds ++ [d]))) := by
  show (if _ then _ else _) = _
  rw [if_pos h]
def extV (i : Nat) (o : Option Sl) (r : Res D) : Out := match o with
  | some (.own ds) => .of ρ r fun d => match d with
    | .list es => if ds.length + es.length ≤ 1000000 then .nx (ρ.set i (.own (ds ++ es))) else .no
    | _ => .no
  | _ => .no
theorem extV_own {i : Nat} {es ds : List D} (h : ds.length + es.length ≤ 1000000) : extV ρ i (some (.own ds)) (.ok (.list es)) = .nx (ρ.set i (.own (ds ++ es))) := by
  show (if _ then _ else _) = _
  rw [if_pos h]
def setiV (i : Nat) (o : Option Sl) (r : Res D) (d : D) : Out := match o with
  | some (.own ds) => .of ρ r fun z => match z with
    | .int j => (match L2.ixN ds.length j with
      | some n => .nx (ρ.set i (.own (ds.set n d)))
      | none => .no)
    | _ => .no
  | _ => .no
theorem kSt_seti {i n : Nat} {d : D} {ds : List D} {j : Int} (h : L2.ixN ds.length j = some n) : kSt ρ (setiV ρ i (some (.own ds)) (.ok (.int j))) (.ok d) = .nx (ρ.set i (.own (ds.set n d))) := by
  show (match L2.ixN ds.length j with | some n => _ | none => _) = _
  rw [h]
def setdV (i : Nat) (o : Option Sl) (r : Res (List D)) (d : D) : Out := match o with
  | some (.dic kvs) => .of ρ r fun ds => match keyL ds with
    | some k => if kvs.length + 1 ≤ 1000000 then .nx (ρ.set i (.dic (putD kvs k d))) else .no
    | none => .no
  | _ => .no
theorem kSt_setd {i : Nat} {d : D} {kvs : List (List L2.Key × D)} {ds : List D} {k : List L2.Key} (hk : keyL ds = some k) (h : kvs.length + 1 ≤ 1000000) : kSt ρ (setdV ρ i (some (.dic kvs)) (.ok ds)) (.ok d) = .nx (ρ.set i (.dic (putD kvs k d))) := by
  show (match keyL ds with | some k => _ | none => _) = _
  rw [hk]
  exact if_pos h
def kGd (o : Option Sl) (a : Res (List D)) : Res D := match o with
  | some (.dic kvs) => a.bind fun ds => .ofO ((keyL ds).bind (getK kvs))
  | _ => .no
theorem kGd_ok {kvs : List (List L2.Key × D)} {ds : List D} {k : List L2.Key} (hk : keyL ds = some k) : kGd (some (.dic kvs)) (.ok ds) = .ofO (getK kvs k) := by
  unfold kGd
  simp only [Res.bind_ok, hk, Option.bind_some]
theorem e_getd (i : Nat) (ks : Exs) : evE P cl ρ (.getd i ks) = kGd ρ[i]? (evL P cl ρ ks) := by
  simp only [evE]
  cases h : ρ[i]? with
  | none => rfl
  | some s => cases s <;> rfl
theorem s_newd' (i : Nat) : evS P cl ρ (.newd i) = .nx (ρ.set i (.dic [])) := by simp only [evS]
theorem s_setd' (i : Nat) (ks : Exs) (x : Ex) : evS P cl ρ (.setd i ks x) = kSt ρ (setdV ρ i ρ[i]? (evL P cl ρ ks)) (evE P cl ρ x) := by
  simp only [evS]
  cases evE P cl ρ x with
  | ok d =>
    simp only [Out.of, kSt]
    cases h : ρ[i]? with
    | none => rfl
    | some s => cases s <;> rfl
  | ex c => rfl
  | no => rfl
def frzV (i : Nat) : Option Sl → Out
  | some (.own ds) => .nx (ρ.set i (.val (.list ds)))
  | _ => .no
theorem frzV_own (i : Nat) (ds : List D) : frzV ρ i (some (.own ds)) = .nx (ρ.set i (.val (.list ds))) := rfl
theorem s_app' (i : Nat) (x : Ex) : evS P cl ρ (.app i x) = appV ρ i ρ[i]? (evE P cl ρ x) := by
  simp only [evS]
  cases h : ρ[i]? with
  | none => rfl
  | some s => cases s <;> rfl
theorem s_ext' (i : Nat) (x : Ex) : evS P cl ρ (.ext i x) = extV ρ i ρ[i]? (evE P cl ρ x) := by
  simp only [evS]
  cases h : ρ[i]? with
  | none => rfl
  | some s => cases s <;> rfl
theorem s_seti' (i : Nat) (k x : Ex) : evS P cl ρ (.seti i k x) = kSt ρ (setiV ρ i ρ[i]? (evE P cl ρ k)) (evE P cl ρ x) := by
  simp only [evS]
  cases evE P cl ρ x with
  | ok d =>
    simp only [Out.of, kSt]
    cases h : ρ[i]? with
    | none => rfl
    | some s => cases s <;> rfl
  | _ => rfl
theorem s_ret' (x : Ex) : evS P cl ρ (.ret x) = kSt ρ Out.ret (evE P cl ρ x) := by
  simp only [evS]
  cases evE P cl ρ x <;> rfl
theorem s_ite' (c : Ex) (a b : Sxs) : evS P cl ρ (.ite c a b) = kSt ρ (fIte P cl ρ a b) (kTru (evE P cl ρ c)) := by
  simp only [evS]
  show Out.of ρ (kTru (evE P cl ρ c)) _ = _
  cases kTru (evE P cl ρ c) with
  | ok b => cases b <;> rfl
  | _ => rfl
theorem s_for' (t : Tg) (s : Sr) (b : Sxs) : evS P cl ρ (.for_ t s b) = kSt ρ (fFor P cl ρ t b) (evR P cl ρ s) := by
  simp only [evS]
  cases evR P cl ρ s <;> rfl
theorem s_pass' : evS P cl ρ .pass = .nx ρ := by simp only [evS]
theorem s_frz' (i : Nat) : evS P cl ρ (.frz i) = frzV ρ i ρ[i]? := by
  simp only [evS]
  cases h : ρ[i]? with
  | none => rfl
  | some s => cases s <;> rfl
theorem s_raise' (c : Nat) : evS P cl ρ (.raise c) = .ex c ρ := by simp only [evS]
theorem s_whl' (c : Ex) (b : Sxs) : evS P cl ρ (.whl c b) = whlGo (fun ρ => kTru (evE P cl ρ c)) (fun ρ => evSs P cl ρ b) 100000 ρ := by
  simp only [evS]
  rfl
def kTry (c : Nat) (h : Sxs) : Out → Out
  | .ex e ρ' => if subE e c = true then evSs P cl ρ' h else .ex e ρ'
  | .nx ρ => .nx ρ
  | .ret d => .ret d
  | .no => .no
theorem s_tryo' (b : Sxs) (c : Nat) (h : Sxs) : evS P cl ρ (.tryo b c h) = kTry P cl c h (evSs P cl ρ b) := by
  simp only [evS]
  cases evSs P cl ρ b <;> rfl
theorem kTry_nx (c : Nat) (h : Sxs) : kTry P cl c h (.nx ρ) = .nx ρ := rfl
theorem kTry_ret (c : Nat) (h : Sxs) (d : D) : kTry P cl c h (.ret d) = .ret d := rfl
theorem kTry_ex (c e : Nat) (h : Sxs) : kTry P cl c h (.ex e ρ) = if subE e c = true then evSs P cl ρ h else .ex e ρ := rfl
def kTry2 (c : Nat) (h : Sxs) (c2 : Nat) (h2 : Sxs) : Out → Out
  | .ex e ρ' => if subE e c = true then evSs P cl ρ' h else if subE e c2 = true then evSs P cl ρ' h2 else .ex e ρ'
  | .nx ρ => .nx ρ
  | .ret d => .ret d
  | .no => .no
theorem s_try2' (b : Sxs) (c : Nat) (h : Sxs) (c2 : Nat) (h2 : Sxs) : evS P cl ρ (.try2 b c h c2 h2) = kTry2 P cl c h c2 h2 (evSs P cl ρ b) := by
  simp only [evS]
  cases evSs P cl ρ b <;> rfl
theorem kTry2_nx (c : Nat) (h : Sxs) (c2 : Nat) (h2 : Sxs) : kTry2 P cl c h c2 h2 (.nx ρ) = .nx ρ := rfl
theorem kTry2_ret (c : Nat) (h : Sxs) (c2 : Nat) (h2 : Sxs) (d : D) : kTry2 P cl c h c2 h2 (.ret d) = .ret d := rfl
theorem kTry2_ex (c e : Nat) (h : Sxs) (c2 : Nat) (h2 : Sxs) : kTry2 P cl c h c2 h2 (.ex e ρ) = if subE e c = true then evSs P cl ρ h else if subE e c2 = true then evSs P cl ρ h2 else .ex e ρ := rfl
def kTryR (c : Nat) (g : Nat → D) : Out → Out
  | .ex e ρ' => if subE e c = true then .ret (g e) else .ex e ρ'
  | .nx ρ => .nx ρ
  | .ret d => .ret d
  | .no => .no
theorem s_tryw' (b : Sxs) (c i : Nat) : evS P cl ρ (.tryw b c i) = kTryR c (fun e => .str (wordOf e)) (evSs P cl ρ b) := by
  simp only [evS]
  cases evSs P cl ρ b <;> rfl
theorem s_tryi' (b : Sxs) (c i d : Nat) : evS P cl ρ (.tryi b c i d) = kTryR c (fun e => .bool (subE e d)) (evSs P cl ρ b) := by
  simp only [evS]
  cases evSs P cl ρ b <;> rfl
theorem kTryR_nx (c : Nat) (g : Nat → D) : kTryR c g (.nx ρ) = .nx ρ := rfl
theorem kTryR_ret (c : Nat) (g : Nat → D) (d : D) : kTryR c g (.ret d) = .ret d := rfl
theorem kTryR_ex (c e : Nat) (g : Nat → D) : kTryR c g (.ex e ρ) = if subE e c = true then .ret (g e) else .ex e ρ := rfl
theorem sub_0 (e : Nat) : subE e 0 = true := by unfold subE; simp
theorem sub_s (e : Nat) : subE e e = true := by unfold subE; simp
def kLr (a : Res (List D)) : Res D := a.bind fun ds => (Res.ofO (rngD ds)).bind fun r => .ok (.list r)
theorem e_lrng (as : Exs) : evE P cl ρ (.lrng as) = kLr (evL P cl ρ as) := by simp only [evE]; rfl
theorem kLr_ok {ds r : List D} (h : rngD ds = some r) : kLr (.ok ds) = .ok (.list r) := by
  unfold kLr
  rw [Res.bind_ok, h]
  rfl
def kInr (a b : Res D) : Res D := a.bind fun x => b.bind fun y => (asInt x).bind fun i => (asInt y).bind fun j => .ok (.bool (decide (0 ≤ i ∧ i < j)))
def kRp (c : Str) (o p : Option Sl) : Res D := match o with
  | some (.val (.str x)) => (match p with | some (.val (.str y)) => .ofO (rplD x c y) | _ => .no)
  | _ => .no
theorem e_repl (i : Nat) (c : Str) (j : Nat) : evE P cl ρ (.repl i c j) = kRp c ρ[i]? ρ[j]? := by simp only [evE]; rfl
theorem e_lackc (f : Nat) (c : Str) : evE P cl ρ (.lackc f c) = evE P cl ρ (.call f (.cons (.str c) .nil)) := by simp only [evE, evL]; rfl
theorem e_lack (f : Nat) (l : Ex) (c : Str) (r : Ex) : evE P cl ρ (.lack f l c r) = evE P cl ρ (.call f (.cons (.bin .add (.bin .add l (.str c)) r) .nil)) := by
  simp only [evE, evL]
  cases evE P cl ρ l with
  | ok x =>
    simp only [Res.bind_ok, bop]
    cases bAdd x (.str c) with
    | none => rfl
    | some y =>
      simp only [Res.ofO_some, Res.bind_ok]
      cases evE P cl ρ r with
      | ok z =>
        simp only [Res.bind_ok]
        cases bAdd y z <;> rfl
      | ex c => rfl
      | no => rfl
  | ex c => rfl
  | no => rfl
theorem e_inr (a n : Ex) : evE P cl ρ (.inr a n) = kInr (evE P cl ρ a) (evE P cl ρ n) := by simp only [evE]; rfl
theorem kInr_ok (i j : Int) : kInr (.ok (.int i)) (.ok (.int j)) = .ok (.bool (decide (0 ≤ i ∧ i < j))) := rfl
def kCv (js : List Nat) (as : Exs) : Option Sl → Res D
  | some (.val (.dict [(.str x, .none)])) => match js.find? (fun j => decide ((P.fn j).map (·.name) = some x)) with | some j => kAp (cl j) (evL P cl ρ as) | none => .no
  | _ => .no
theorem e_callv (i : Nat) (js : List Nat) (as : Exs) : evE P cl ρ (.callv i js as) = kCv P cl ρ js as ρ[i]? := by
  simp only [evE]
  generalize ρ[i]? = o
  unfold kCv
  rcases o with _ | o
  · rfl
  · cases o with
    | no => rfl
    | own _ => rfl
    | dic _ => rfl
    | val d =>
      cases d with
      | dict kvs =>
        rcases kvs with _ | ⟨⟨a, b⟩, t⟩
        · rfl
        · rcases t with _ | ⟨q, t⟩
          · cases a <;> cases b <;> rfl
          · cases a <;> cases b <;> rfl
      | _ => rfl
theorem kCv_fn {js : List Nat} {as : Exs} {x : Str} {j : Nat} (h : js.find? (fun j => decide ((P.fn j).map (·.name) = some x)) = some j) : kCv P cl ρ js as (some (.val (fnD x))) = kAp (cl j) (evL P cl ρ as) := by
  unfold kCv
  simp only [h]
/-! a comprehension's element -/
def kSome (r : Res D) : Res (Option D) := match r with
  | .ok y => .ok (some y)
  | _ => .no
theorem kSome_ok (y : D) : kSome (.ok y) = .ok (some y) := rfl
def kGo (b : Res Bool) (r : Res (Option D)) : Res (Option D) := match b with
  | .ok true => r
  | .ok false => .ok none
  | _ => .no
theorem kGo_t (r : Res (Option D)) : kGo (.ok true) r = r := rfl
theorem kGo_f (r : Res (Option D)) : kGo (.ok false) r = .ok none := rfl
theorem kGo_b (b : Bool) (y : D) : kGo (.ok b) (.ok (some y)) = .ok (if b = true then some y else none) := by cases b <;> rfl
def lcN (e : Ex) : Option (List Sl) → Res (Option D)
  | some ρ' => kSome (evE P cl ρ' e)
  | none => .no
def lcI (c e : Ex) : Option (List Sl) → Res (Option D)
  | some ρ' => kGo (kTru (evE P cl ρ' c)) (kSome (evE P cl ρ' e))
  | none => .no
theorem lcN_some (e : Ex) (ρ' : List Sl) : lcN P cl e (some ρ') = kSome (evE P cl ρ' e) := rfl
theorem lcI_some (c e : Ex) (ρ' : List Sl) : lcI P cl c e (some ρ') = kGo (kTru (evE P cl ρ' c)) (kSome (evE P cl ρ' e)) := rfl
theorem lc_N (t : Tg) (e : Ex) (d : D) : lcG P cl ρ t .no e d = lcN P cl e (bindT (wipeR ρ t.slots) t d) := by
  unfold lcG lcN
  cases bindT (wipeR ρ t.slots) t d with
  | none => rfl
  | some ρ' =>
    simp only [k_no, calm, Res.bind_ok]
    cases evE P cl ρ' e <;> rfl
theorem lc_I (t : Tg) (c e : Ex) (d : D) : lcG P cl ρ t (.some c) e d = lcI P cl c e (bindT (wipeR ρ t.slots) t d) := by
  unfold lcG lcI
  cases bindT (wipeR ρ t.slots) t d with
  | none => rfl
  | some ρ' =>
    simp only [k_some]
    cases kTru (evE P cl ρ' c) with
    | ok b =>
      cases b with
      | true =>
        simp only [calm, Res.bind_ok]
        cases evE P cl ρ' e <;> rfl
      | false => rfl
    | ex c => rfl
    | no => rfl
theorem bind_1 (i : Nat) (d : D) : bindT ρ (.one i) d = some (ρ.set i (.val d)) := rfl
theorem bind_2 (i j : Nat) (x y : D) : bindT ρ (.tup [i, j]) (.tuple [x, y]) = some ((ρ.set i (.val x)).set j (.val y)) := rfl
theorem bind_3 (i j k : Nat) (x y z : D) : bindT ρ (.tup [i, j, k]) (.tuple [x, y, z]) = some (((ρ.set i (.val x)).set j (.val y)).set k (.val z)) := rfl
theorem bind_4 (i j k l : Nat) (x y z w : D) : bindT ρ (.tup [i, j, k, l]) (.tuple [x, y, z, w]) = some ((((ρ.set i (.val x)).set j (.val y)).set k (.val z)).set l (.val w)) := rfl
theorem forF_1 (i : Nat) (b : Sxs) (d : D) : forF P cl (.one i) b ρ d = evSs P cl (ρ.set i (.val d)) b := rfl
theorem forF_2 (i j : Nat) (b : Sxs) (x y : D) : forF P cl (.tup [i, j]) b ρ (.tuple [x, y]) = evSs P cl ((ρ.set i (.val x)).set j (.val y)) b := rfl
theorem forF_3 (i j k : Nat) (b : Sxs) (x y z : D) : forF P cl (.tup [i, j, k]) b ρ (.tuple [x, y, z]) = evSs P cl (((ρ.set i (.val x)).set j (.val y)).set k (.val z)) b := rfl
theorem forF_4 (i j k l : Nat) (b : Sxs) (x y z w : D) : forF P cl (.tup [i, j, k, l]) b ρ (.tuple [x, y, z, w]) = evSs P cl ((((ρ.set i (.val x)).set j (.val y)).set k (.val z)).set l (.val w)) b := rfl
theorem par_n : parGo ρ [] [] = some ρ := rfl
theorem par_v (i : Nat) (ts : List (Nat × Bool)) (d : D) (ds : List D) : parGo ρ ((i, false) :: ts) (d :: ds) = parGo (ρ.set i (.val d)) ts ds := rfl
theorem par_o (i : Nat) (ts : List (Nat × Bool)) (l : List D) (ds : List D) : parGo ρ ((i, true) :: ts) (.list l :: ds) = parGo (ρ.set i (.own l)) ts ds := rfl
/-- zip: both values first -/
def kZp (a b : Res D) : Res (List D) := a.bind fun x => b.bind fun y => kZip (.ofO (itemsOf x)) (.ofO (itemsOf y))
theorem r_zp (a b : Ex) : evR P cl ρ (.zip a b) = kZp (evE P cl ρ a) (evE P cl ρ b) := by
  simp only [evR]
  cases evE P cl ρ a <;> cases evE P cl ρ b <;> rfl
theorem kZp_ok (x y : D) : kZp (.ok x) (.ok y) = kZip (.ofO (itemsOf x)) (.ofO (itemsOf y)) := rfl
end
/-! ### operators -/
theorem mul_r {i j : Int} (h1 : -18446744073709551616 < j) (h2 : j < 18446744073709551616) : bMul (.int i) (.int j) = some (.int (i * j)) := if_pos (.inr ⟨h1, h2⟩)
theorem mul_l {i j : Int} (h1 : -18446744073709551616 < i) (h2 : i < 18446744073709551616) : bMul (.int i) (.int j) = some (.int (i * j)) := if_pos (.inl ⟨h1, h2⟩)
theorem mod_i {i j : Int} (h : 0 < j) : bMod (.int i) (.int j) = some (.int (i % j)) := if_pos h
theorem fdiv_i {i j : Int} (h : 0 < j) (h2 : j < 1073741824) : bFdiv (.int i) (.int j) = some (.int (i / j)) := if_pos ⟨h, h2⟩
theorem add_i (i j : Int) : bAdd (.int i) (.int j) = some (.int (i + j)) := rfl
theorem sub_i (i j : Int) : bSub (.int i) (.int j) = some (.int (i - j)) := rfl
theorem add_s {x y : Str} (h : x.length + y.length ≤ 1000000) : bAdd (.str x) (.str y) = some (.str (x ++ y)) := if_pos h
theorem add_t {x y : List D} (h : x.length + y.length ≤ 1000000) : bAdd (.tuple x) (.tuple y) = some (.tuple (x ++ y)) := if_pos h
theorem add_l {x y : List D} (h : x.length + y.length ≤ 1000000) : bAdd (.list x) (.list y) = some (.list (x ++ y)) := if_pos h
theorem ltI (i j : Int) : cLt (.int i) (.int j) = some (.bool (decide (i < j))) := rfl
theorem leI (i j : Int) : cLe (.int i) (.int j) = some (.bool (decide (i ≤ j))) := rfl
theorem gtI (i j : Int) : cGt (.int i) (.int j) = some (.bool (decide (j < i))) := rfl
theorem geI (i j : Int) : cGe (.int i) (.int j) = some (.bool (decide (j ≤ i))) := rfl
theorem near_i (i j : Int) : near2 (.int i) (.int j) := ⟨rfl, rfl, by show min 0 0 ≤ 60 <;> first | decide | (simp [PyData.depth])⟩
theorem eqI (i j : Int) : cEq (.int i) (.int j) = some (.bool (decide (i = j))) := by
  unfold cEq gd
  rw [if_pos (near_i i j)]
  rfl
theorem neI (i j : Int) : cNe (.int i) (.int j) = some (.bool (!decide (i = j))) := by
  unfold cNe gd
  rw [if_pos (near_i i j)]
  rfl
theorem truB (b : Bool) : truth (.bool b) = some b := rfl
theorem truI (i : Int) : truth (.int i) = some (i != 0) := rfl
theorem bnot_t : (!true) = false := rfl
theorem bnot_f : (!false) = true := rfl
theorem len_l (ds : List D) : fLen [.list ds] = some (.int ds.length) := rfl
theorem len_t (ds : List D) : fLen [.tuple ds] = some (.int ds.length) := rfl
theorem len_s (ds : Str) : fLen [.str ds] = some (.int ds.length) := rfl
theorem len_c (ds : List D) : fLen [.dict [(.list ds, .none)]] = some (.int ds.length) := rfl
theorem tup_l (ds : List D) : fTuple [.list ds] = some (.tuple ds) := rfl
theorem tup_t (ds : List D) : fTuple [.tuple ds] = some (.tuple ds) := rfl
theorem list_t (ds : List D) : fList [.tuple ds] = some (.list ds) := rfl
theorem list_l (ds : List D) : fList [.list ds] = some (.list ds) := rfl
/-! ### isinstance -/
theorem isi_none0  : fIsi [.none, .dict [(.none, .int 0)]] = some (.bool false) := rfl
theorem isi_none1  : fIsi [.none, .dict [(.none, .int 1)]] = some (.bool false) := rfl
theorem isi_none2  : fIsi [.none, .dict [(.none, .int 2)]] = some (.bool false) := rfl
theorem isi_none3  : fIsi [.none, .dict [(.none, .int 3)]] = some (.bool false) := rfl
theorem isi_none4  : fIsi [.none, .dict [(.none, .int 4)]] = some (.bool false) := rfl
theorem isi_bool0 (b : Bool) : fIsi [(.bool b), .dict [(.none, .int 0)]] = some (.bool true) := rfl
theorem isi_bool1 (b : Bool) : fIsi [(.bool b), .dict [(.none, .int 1)]] = some (.bool false) := rfl
theorem isi_bool2 (b : Bool) : fIsi [(.bool b), .dict [(.none, .int 2)]] = some (.bool true) := rfl
theorem isi_bool3 (b : Bool) : fIsi [(.bool b), .dict [(.none, .int 3)]] = some (.bool false) := rfl
theorem isi_bool4 (b : Bool) : fIsi [(.bool b), .dict [(.none, .int 4)]] = some (.bool false) := rfl
theorem isi_int0 (b : Int) : fIsi [(.int b), .dict [(.none, .int 0)]] = some (.bool true) := rfl
theorem isi_int1 (b : Int) : fIsi [(.int b), .dict [(.none, .int 1)]] = some (.bool false) := rfl
theorem isi_int2 (b : Int) : fIsi [(.int b), .dict [(.none, .int 2)]] = some (.bool false) := rfl
theorem isi_int3 (b : Int) : fIsi [(.int b), .dict [(.none, .int 3)]] = some (.bool false) := rfl
theorem isi_int4 (b : Int) : fIsi [(.int b), .dict [(.none, .int 4)]] = some (.bool false) := rfl
theorem isi_str0 (b : Str) : fIsi [(.str b), .dict [(.none, .int 0)]] = some (.bool false) := rfl
theorem isi_str1 (b : Str) : fIsi [(.str b), .dict [(.none, .int 1)]] = some (.bool true) := rfl
theorem isi_str2 (b : Str) : fIsi [(.str b), .dict [(.none, .int 2)]] = some (.bool false) := rfl
theorem isi_str3 (b : Str) : fIsi [(.str b), .dict [(.none, .int 3)]] = some (.bool false) := rfl
theorem isi_str4 (b : Str) : fIsi [(.str b), .dict [(.none, .int 4)]] = some (.bool false) := rfl
theorem isi_list0 (b : List D) : fIsi [(.list b), .dict [(.none, .int 0)]] = some (.bool false) := rfl
theorem isi_list1 (b : List D) : fIsi [(.list b), .dict [(.none, .int 1)]] = some (.bool false) := rfl
theorem isi_list2 (b : List D) : fIsi [(.list b), .dict [(.none, .int 2)]] = some (.bool false) := rfl
theorem isi_list3 (b : List D) : fIsi [(.list b), .dict [(.none, .int 3)]] = some (.bool false) := rfl
theorem isi_list4 (b : List D) : fIsi [(.list b), .dict [(.none, .int 4)]] = some (.bool true) := rfl
theorem isi_tuple0 (b : List D) : fIsi [(.tuple b), .dict [(.none, .int 0)]] = some (.bool false) := rfl
theorem isi_tuple1 (b : List D) : fIsi [(.tuple b), .dict [(.none, .int 1)]] = some (.bool false) := rfl
theorem isi_tuple2 (b : List D) : fIsi [(.tuple b), .dict [(.none, .int 2)]] = some (.bool false) := rfl
theorem isi_tuple3 (b : List D) : fIsi [(.tuple b), .dict [(.none, .int 3)]] = some (.bool true) := rfl
theorem isi_tuple4 (b : List D) : fIsi [(.tuple b), .dict [(.none, .int 4)]] = some (.bool false) := rfl
/-! ### walks -/
theorem forGo_nil (f : List Sl → D → Out) (ρ : List Sl) : forGo f [] ρ = .nx ρ := rfl
theorem forGo_cons (f : List Sl → D → Out) (d : D) (ds : List D) (ρ : List Sl) : forGo f (d :: ds) ρ = (f ρ d).bind fun ρ' => forGo f ds ρ' := rfl
/-- it goes on, with such slots -/
def Nx (o : Out) (Q : List Sl → Prop) : Prop := match o with
  | .nx ρ => Q ρ
  | _ => False
theorem nx_nx (ρ : List Sl) (Q : List Sl → Prop) : Nx (.nx ρ) Q = Q ρ := rfl
theorem Nx.out {o : Out} {Q : List Sl → Prop} (h : Nx o Q) : ∃ ρ, o = .nx ρ ∧ Q ρ := by
  cases o with
  | nx ρ => exact ⟨ρ, rfl, h⟩
  | _ => exact h.elim
theorem Nx.imp {o : Out} {Q Q' : List Sl → Prop} (h : Nx o Q) (i : ∀ ρ, Q ρ → Q' ρ) : Nx o Q' := by
  obtain ⟨ρ, rfl, q⟩ := h.out
  exact i ρ q
/-- a loop, by what holds behind each part of the items -/
theorem for_pre {α : Type} {enc : α → D} {f : List Sl → D → Out} (R : List α → List Sl → Prop) (l : List α) {ρ : List Sl} (h0 : R [] ρ) (hs : ∀ pre a post, l = pre ++ a :: post → ∀ ρ, R pre ρ → Nx (f ρ (enc a)) (R (pre ++ [a]))) : Nx (forGo f (l.map enc) ρ) (R l) := by
  have key : ∀ (post pre : List α) (ρ : List Sl), l = pre ++ post → R pre ρ → Nx (forGo f (post.map enc) ρ) (R l) := by
    intro post
    induction post with
    | nil => intro pre ρ e h; rw [List.append_nil] at e; rw [e]; exact h
    | cons a post ih =>
      intro pre ρ e h
      obtain ⟨ρ', e1, h1⟩ := (hs pre a post e ρ h).out
      rw [List.map_cons, forGo_cons, e1]
      exact ih (pre ++ [a]) ρ' (by rw [e, List.append_assoc]; rfl) h1
  exact key l [] ρ rfl h0
/-- a loop that changes nothing that is looked at -/
theorem for_keep {α : Type} {enc : α → D} {f : List Sl → D → Out} (R : List Sl → Prop) (l : List α) {ρ : List Sl} (h0 : R ρ) (hs : ∀ a ∈ l, ∀ ρ, R ρ → Nx (f ρ (enc a)) R) : Nx (forGo f (l.map enc) ρ) R :=
  for_pre (fun _ => R) l h0 fun pre a post e ρ h => hs a (by rw [e]; simp) ρ h
/-- a loop that returns -/
theorem for_ret {α : Type} {enc : α → D} {f : List Sl → D → Out} (R : List α → List Sl → Prop) (l pre : List α) (a : α) (post : List α) (e : l = pre ++ a :: post) {ρ : List Sl} {d : D} (h0 : R [] ρ) (hs : ∀ p b q, pre = p ++ b :: q → ∀ ρ, R p ρ → Nx (f ρ (enc b)) (R (p ++ [b]))) (hr : ∀ ρ, R pre ρ → f ρ (enc a) = .ret d) : forGo f (l.map enc) ρ = .ret d := by
  have key : ∀ (q p : List α) (ρ : List Sl), pre = p ++ q → R p ρ → forGo f ((q ++ a :: post).map enc) ρ = .ret d := by
    intro q
    induction q with
    | nil =>
      intro p ρ e h
      rw [List.append_nil] at e
      rw [← e] at h
      rw [List.nil_append, List.map_cons, forGo_cons, hr ρ h]
      rfl
    | cons b q ih =>
      intro p ρ e h
      obtain ⟨ρ', e1, h1⟩ := (hs p b q e ρ h).out
      rw [List.cons_append, List.map_cons, forGo_cons, e1]
      exact ih (p ++ [b]) ρ' (by rw [e, List.append_assoc]; rfl) h1
  rw [e]
  exact key pre [] ρ rfl h0
section
variable {P : Pt} {cl : Nat → List D → Res D} {r : Sxs} {o : Out} {Q : List Sl → Prop}
theorem seq_fin {x : Res D} (h : Nx o Q) (k : ∀ ρ, Q ρ → fin (evSs P cl ρ r) = x) : fin (kSeq P cl r o) = x := by
  obtain ⟨ρ, rfl, q⟩ := h.out
  exact k ρ q
theorem seq_nx {Q' : List Sl → Prop} (h : Nx o Q) (k : ∀ ρ, Q ρ → Nx (evSs P cl ρ r) Q') : Nx (kSeq P cl r o) Q' := by
  obtain ⟨ρ, rfl, q⟩ := h.out
  exact k ρ q
theorem seq_ret {d : D} (h : o = .ret d) : fin (kSeq P cl r o) = .ok d := by rw [h]; rfl
theorem seq_any {C : Out → Prop} (h : Nx o Q) (k : ∀ ρ, Q ρ → C (evSs P cl ρ r)) : C (kSeq P cl r o) := by
  obtain ⟨ρ, rfl, q⟩ := h.out
  exact k ρ q
end
/-! ### comprehensions -/
theorem collect_mapm {α : Type} {f : D → Res (Option D)} {h g : α → D} : ∀ (l : List α), (∀ a ∈ l, f (h a) = .ok (some (g a))) → collect f (l.map h) = .ok (l.map g)
  | [], _ => rfl
  | d :: ds, q => by
    simp only [List.map_cons, collect, q d List.mem_cons_self, Res.bind_ok, collect_mapm ds fun e he => q e (List.mem_cons_of_mem _ he)]
theorem collect_fil {α : Type} {f : D → Res (Option D)} {h g : α → D} {p : α → Bool} : ∀ (l : List α), (∀ a ∈ l, f (h a) = .ok (if p a = true then some (g a) else none)) → collect f (l.map h) = .ok ((l.filter p).map g)
  | [], _ => rfl
  | d :: ds, q => by
    simp only [List.map_cons, collect, q d List.mem_cons_self, Res.bind_ok, collect_fil ds fun e he => q e (List.mem_cons_of_mem _ he)]
    cases z : p d
    · simp [List.filter_cons, z]
    · simp [List.filter_cons, z]
theorem lc_map {α : Type} {f : D → Res (Option D)} {h g : α → D} {l : List α} (q : ∀ a ∈ l, f (h a) = .ok (some (g a))) : kLc2 (collect f (l.map h)) = .ok (.list (l.map g)) := by
  rw [collect_mapm l q]; rfl
theorem lc_fil {α : Type} {f : D → Res (Option D)} {h g : α → D} {p : α → Bool} {l : List α} (q : ∀ a ∈ l, f (h a) = .ok (if p a = true then some (g a) else none)) : kLc2 (collect f (l.map h)) = .ok (.list ((l.filter p).map g)) := by
  rw [collect_fil l q]; rfl
end Bg

set_option Elab.async false
set_option linter.all false
set_option maxRecDepth 100000
set_option maxHeartbeats 4000000
/-! Typed data: texts as lists of signs, tuples and lists by a map. -/
namespace Bg
open PySem PySem.Spec PyProof.Rows L2
theorem if_true_t {α : Type} (a b : α) : (if (true = true) then a else b) = a := if_pos rfl
/-- a text -/
abbrev T (l : List Nat) : Str := ⟨l.toArray⟩
def sT (l : List Nat) : D := .str (T l)
def tM {α : Type} (f : α → D) (l : List α) : D := .tuple (l.map f)
def lM {α : Type} (f : α → D) (l : List α) : D := .list (l.map f)
abbrev tI (l : List Int) : D := tM PyData.int l
theorem T_app (a b : List Nat) : T a ++ T b = T (a ++ b) := by
  apply TL.ext_tl
  rw [TL.tl_append]
theorem T_len (a : List Nat) : (T a).length = a.length := by simp [Str.length]
theorem T_cps (a : List Nat) : (T a).cps.toList = a := by simp
theorem T_inj {a b : List Nat} (h : T a = T b) : a = b := by
  injection h with h
  simpa using h
theorem T_beq (a b : List Nat) : (T a == T b) = decide (a = b) := by
  by_cases h : a = b
  · subst h; simp
  · rw [decide_eq_false h, beq_eq_false_iff_ne]
    exact fun z => h (T_inj z)
theorem str_lit (l : List Nat) : PyData.str ⟨l.toArray⟩ = sT l := rfl
theorem tupI_0 : PyData.tuple [] = tI [] := rfl
theorem tupI_1 (a : Int) : PyData.tuple [.int a] = tI [a] := rfl
theorem tupI_2 (a b : Int) : PyData.tuple [.int a, .int b] = tI [a, b] := rfl
theorem tupI_3 (a b c : Int) : PyData.tuple [.int a, .int b, .int c] = tI [a, b, c] := rfl
theorem tupI_4 (a b c d : Int) : PyData.tuple [.int a, .int b, .int c, .int d] = tI [a, b, c, d] := rfl
theorem tupI_5 (a b c d e : Int) : PyData.tuple [.int a, .int b, .int c, .int d, .int e] = tI [a, b, c, d, e] := rfl
theorem tupI_6 (a b c d e f : Int) : PyData.tuple [.int a, .int b, .int c, .int d, .int e, .int f] = tI [a, b, c, d, e, f] := rfl
section
variable {α β : Type} {f : α → D} {g : β → D}
theorem len_sT (l : List Nat) : fLen [sT l] = some (.int l.length) := by
  show some (PyData.int ((T l).length : Nat)) = _
  rw [T_len]
theorem len_tM (l : List α) : fLen [tM f l] = some (.int l.length) := by
  show some (PyData.int ((l.map f).length : Nat)) = _
  rw [List.length_map]
theorem len_lM (l : List α) : fLen [lM f l] = some (.int l.length) := by
  show some (PyData.int ((l.map f).length : Nat)) = _
  rw [List.length_map]
theorem add_sT {a b : List Nat} (h : a.length + b.length ≤ 1000000) : bAdd (sT a) (sT b) = some (sT (a ++ b)) := by
  show gd _ _ = _
  unfold gd
  rw [if_pos (by rw [T_len, T_len]; exact h), T_app]
  rfl
theorem add_tM {a b : List α} (h : a.length + b.length ≤ 1000000) : bAdd (tM f a) (tM f b) = some (tM f (a ++ b)) := by
  show gd _ _ = _
  unfold gd
  rw [if_pos (by rw [List.length_map, List.length_map]; exact h), ← List.map_append]
  rfl
theorem add_lM {a b : List α} (h : a.length + b.length ≤ 1000000) : bAdd (lM f a) (lM f b) = some (lM f (a ++ b)) := by
  show gd _ _ = _
  unfold gd
  rw [if_pos (by rw [List.length_map, List.length_map]; exact h), ← List.map_append]
  rfl
theorem mul_sT {a : List Nat} {k : Int} (h0 : 0 ≤ k) (h1 : k ≤ 100000) (h2 : a.length * k.toNat ≤ 100000) : bMul (sT a) (.int k) = some (sT (List.replicate k.toNat a).flatten) := by
  show gd _ _ = _
  unfold gd
  rw [if_pos ⟨h0, h1, by rw [T_len]; exact h2⟩]
  unfold mulS
  rw [T_cps]
  rfl
theorem rep_one (c k : Nat) : (List.replicate k [c]).flatten = List.replicate k c := by
  induction k with
  | zero => rfl
  | succ k ih => rw [List.replicate_succ, List.flatten_cons, ih, List.replicate_succ]; rfl
theorem mul_tM {a : List α} {k : Int} (h : a ≠ []) (h0 : 2 ≤ k) (h1 : k ≤ 1000) (h2 : a.length ≤ 1000) : bMul (tM f a) (.int k) = some (tM f (List.replicate k.toNat a).flatten) := by
  show gd _ _ = _
  unfold gd
  rw [if_pos ⟨by cases a with | nil => exact absurd rfl h | cons _ _ => rfl, h0, h1, by rw [List.length_map]; exact h2⟩]
  unfold tM
  rw [List.map_flatten, List.map_replicate]
theorem mul_lM {a : List α} {k : Int} (h0 : 0 ≤ k) (h1 : k ≤ 100000) (h2 : a.length * k.toNat ≤ 100000) : bMul (lM f a) (.int k) = some (lM f (List.replicate k.toNat a).flatten) := by
  show gd _ _ = _
  unfold gd
  rw [if_pos ⟨h0, h1, by rw [List.length_map]; exact h2⟩]
  unfold lM
  rw [List.map_flatten, List.map_replicate]
abbrev sC (c : Nat) : D := sT [c]
theorem items_sT (l : List Nat) : itemsOf (sT l) = some (l.map sC) := by
  show some (sgn (T l)) = _
  unfold sgn
  rw [T_cps]
  rfl
theorem items_tM (l : List α) : itemsOf (tM f l) = some (l.map f) := rfl
theorem items_lM (l : List α) : itemsOf (lM f l) = some (l.map f) := rfl
theorem cut_map (l : List α) (lo hi : Option Int) : cutD (l.map f) lo hi = (cutD l lo hi).map f := by
  unfold cutD
  rw [List.length_map, List.map_take, List.map_drop]
theorem sl_sT (l : List Nat) (lo hi : Option Int) : slD (sT l) lo hi = some (sT (cutD l lo hi)) := by
  show some (PyData.str ⟨(cutD (T l).cps.toList lo hi).toArray⟩) = _
  rw [T_cps]
  rfl
theorem sl_tM (l : List α) (lo hi : Option Int) : slD (tM f l) lo hi = some (tM f (cutD l lo hi)) := by
  show some (PyData.tuple (cutD (l.map f) lo hi)) = _
  rw [cut_map]
  rfl
theorem sl_lM (l : List α) (lo hi : Option Int) : slD (lM f l) lo hi = some (lM f (cutD l lo hi)) := by
  show some (PyData.list (cutD (l.map f) lo hi)) = _
  rw [cut_map]
  rfl
theorem rev_sT (l : List Nat) : slsD (sT l) none none (-1) = some (sT l.reverse) := by
  show some (PyData.str ⟨((T l).cps.toList.reverse).toArray⟩) = _
  rw [T_cps]
  rfl
theorem rev_tM (l : List α) : slsD (tM f l) none none (-1) = some (tM f l.reverse) := by
  show some (PyData.tuple ((l.map f).reverse)) = _
  rw [← List.map_reverse]
  rfl
theorem rev_lM (l : List α) : slsD (lM f l) none none (-1) = some (lM f l.reverse) := by
  show some (PyData.list ((l.map f).reverse)) = _
  rw [← List.map_reverse]
  rfl
theorem evens_map : ∀ (l : List α), evens (l.map f) = (evens l).map f
  | [] => rfl
  | [a] => rfl
  | a :: b :: r => by simp only [List.map_cons, evens, evens_map r]
theorem ev_tM (l : List α) (lo hi : Option Int) : slsD (tM f l) lo hi 2 = some (tM f (evens (cutD l lo hi))) := by
  unfold slsD
  rw [if_neg (fun z => by have := z.1; revert this; decide), if_pos rfl]
  show some (PyData.tuple (evens (cutD (l.map f) lo hi))) = _
  rw [cut_map, evens_map]
  rfl
theorem tup_lM (l : List α) : fTuple [lM f l] = some (tM f l) := rfl
theorem tup_tM (l : List α) : fTuple [tM f l] = some (tM f l) := rfl
theorem list_tM (l : List α) : fList [tM f l] = some (lM f l) := rfl
theorem list_lM (l : List α) : fList [lM f l] = some (lM f l) := rfl
theorem list_sT (l : List Nat) : fList [sT l] = some (lM sC l) := by
  show some (PyData.list (sgn (T l))) = _
  unfold sgn
  rw [T_cps]
  rfl
end
theorem key_IS (i : Int) (x : List Nat) : keyL [.int i, sT x] = some [.inl i, .inr (T x)] := rfl
theorem kGd_IS (kvs : List (List Key × D)) (i : Int) (x : List Nat) : kGd (some (.dic kvs)) (.ok [.int i, sT x]) = .ofO (getK kvs [.inl i, .inr (T x)]) := kGd_ok (key_IS i x)
theorem kSt_setd_IS (ρ : List Sl) {j : Nat} {kvs : List (List Key × D)} {i : Int} {x : List Nat} {d : D} (h : kvs.length + 1 ≤ 1000000) : kSt ρ (setdV ρ j (some (.dic kvs)) (.ok [.int i, sT x])) (.ok d) = .nx (ρ.set j (.dic (putD kvs [.inl i, .inr (T x)] d))) := kSt_setd ρ (key_IS i x) h
/-! ### cuts -/
section
variable {α : Type}
theorem cut_nn (l : List α) : cutD l none none = l := by
  unfold cutD HT.sIx
  simp
theorem sIx_some (n d : Nat) (i : Int) (h : 0 ≤ i) : HT.sIx n d (some i) = min i.toNat n := by
  unfold HT.sIx
  by_cases q : i ≤ n <;> simp <;> omega
theorem sIx_none (n d : Nat) : HT.sIx n d none = d := rfl
theorem cut_hi (l : List α) {i : Int} (h : 0 ≤ i) : cutD l none (some i) = l.take i.toNat := by
  unfold cutD
  rw [sIx_none, sIx_some _ _ _ h, List.drop_zero, Nat.sub_zero, Nat.min_comm]
  rcases Nat.le_total i.toNat l.length with q | q
  · rw [Nat.min_eq_right q]
  · rw [Nat.min_eq_left q, List.take_of_length_le (Nat.le_refl _), List.take_of_length_le q]
theorem cut_lo (l : List α) {i : Int} (h : 0 ≤ i) : cutD l (some i) none = l.drop i.toNat := by
  unfold cutD
  rw [sIx_none, sIx_some _ _ _ h]
  rcases Nat.le_total i.toNat l.length with q | q
  · rw [Nat.min_eq_left q, List.take_of_length_le (by rw [List.length_drop]; omega)]
  · rw [Nat.min_eq_right q, Nat.sub_self, List.take_zero, List.drop_eq_nil_of_le q]
theorem cut_lohi (l : List α) {i j : Int} (h : 0 ≤ i) (h2 : 0 ≤ j) : cutD l (some i) (some j) = (l.drop i.toNat).take (j.toNat - i.toNat) := by
  unfold cutD
  rw [sIx_some _ _ _ h, sIx_some _ _ _ h2]
  rcases Nat.le_total i.toNat l.length with q | q
  · rw [Nat.min_eq_left q]
    rcases Nat.le_total j.toNat l.length with q2 | q2
    · rw [Nat.min_eq_left q2]
    · rw [Nat.min_eq_right q2, List.take_of_length_le (by rw [List.length_drop]; omega), List.take_of_length_le (by rw [List.length_drop]; omega)]
  · rw [Nat.min_eq_right q, List.drop_eq_nil_of_le (Nat.le_refl _), List.drop_eq_nil_of_le q, List.take_nil, List.take_nil]
theorem sIx_neg (n d : Nat) (i : Int) (h : i < 0) : HT.sIx n d (some i) = n - (-i).toNat := by
  unfold HT.sIx
  simp only
  rw [if_pos h]
  omega
/-- l[:-k] -/
theorem cut_mhi (l : List α) (k : Nat) (hk : 0 < k) : cutD l none (some (-(k : Int))) = l.take (l.length - k) := by
  unfold cutD
  rw [sIx_none, sIx_neg _ _ _ (by omega), List.drop_zero, Nat.sub_zero]
  congr 1
  omega
/-- l[-k:] -/
theorem cut_mlo (l : List α) (k : Nat) (hk : 0 < k) : cutD l (some (-(k : Int))) none = l.drop (l.length - k) := by
  unfold cutD
  rw [sIx_none, sIx_neg _ _ _ (by omega)]
  have e : (-(-(k : Int))).toNat = k := by omega
  rw [e, List.take_of_length_le (by rw [List.length_drop]; exact Nat.le_refl _)]
end
/-! ### items -/
section
variable {α : Type} {f : α → D}
theorem atI_nat' (l : List α) (i : Int) (h : 0 ≤ i) : L2.atI l i = l[i.toNat]? := by
  unfold L2.atI L2.ixN
  rw [if_pos h]
  by_cases q : i < l.length
  · rw [if_pos q]; rfl
  · rw [if_neg q, List.getElem?_eq_none (by omega)]; rfl
theorem ix_tM {l : List α} {i : Int} {a : α} (h : 0 ≤ i) (e : l[i.toNat]? = some a) : ixD (tM f l) (.int i) = some (f a) := by
  show L2.atI (l.map f) i = _
  rw [atI_nat' _ _ h, List.getElem?_map, e]
  rfl
theorem ix_lM {l : List α} {i : Int} {a : α} (h : 0 ≤ i) (e : l[i.toNat]? = some a) : ixD (lM f l) (.int i) = some (f a) := by
  show L2.atI (l.map f) i = _
  rw [atI_nat' _ _ h, List.getElem?_map, e]
  rfl
theorem ix_sT {l : List Nat} {i : Int} {a : Nat} (h : 0 ≤ i) (e : l[i.toNat]? = some a) : ixD (sT l) (.int i) = some (sT [a]) := by
  show (L2.atI (T l).cps.toList i).map _ = _
  rw [T_cps, atI_nat' _ _ h, e]
  rfl
/-- l[i], by the list's own item -/
theorem ixd_tI {l : List Int} {i : Int} (h : 0 ≤ i) (h2 : i < l.length) : ixD (tI l) (.int i) = some (.int (l.getD i.toNat 0)) := by
  have q : i.toNat < l.length := by omega
  refine ix_tM h ?_
  rw [List.getD_eq_getElem?_getD, List.getElem?_eq_getElem q]
  rfl
theorem ixd_sT {l : List Nat} {i : Int} (h : 0 ≤ i) (h2 : i < l.length) : ixD (sT l) (.int i) = some (sT [l.getD i.toNat 0]) := by
  have q : i.toNat < l.length := by omega
  refine ix_sT h ?_
  rw [List.getD_eq_getElem?_getD, List.getElem?_eq_getElem q]
  rfl
theorem atI_neg (l : List α) (k : Nat) (hk : 0 < k) (h : k ≤ l.length) : L2.atI l (-(k : Int)) = l[l.length - k]? := by
  unfold L2.atI L2.ixN
  rw [if_neg (by omega), if_pos (by omega)]
  show l[((-(k : Int)) + (l.length : Int)).toNat]? = _
  rw [show ((-(k : Int)) + (l.length : Int)).toNat = l.length - k by omega]
theorem ixm_tM {l : List α} {k : Nat} {a : α} (hk : 0 < k) (h : k ≤ l.length) (e : l[l.length - k]? = some a) : ixD (tM f l) (.int (-(k : Int))) = some (f a) := by
  show L2.atI (l.map f) _ = _
  rw [atI_neg _ k hk (by rw [List.length_map]; exact h), List.length_map, List.getElem?_map, e]
  rfl
end
/-! ### comparisons -/
structure Gd {α : Type} [DecidableEq α] (f : α → D) (k : Nat) : Prop where
  pl : ∀ a, (f a).plain = true
  eq : ∀ a b, PyData.eqv (f a) (f b) = decide (a = b)
  dp : ∀ a, (f a).depth ≤ k
theorem depthAll_le' : ∀ (ds : List D) (k : Nat), (∀ d ∈ ds, d.depth ≤ k) → PyData.depthAll ds ≤ k
  | [], k, _ => by simp [PyData.depthAll]
  | d :: ds, k, h => by
    have h1 := h d List.mem_cons_self
    have h2 := depthAll_le' ds k fun e he => h e (List.mem_cons_of_mem _ he)
    simp only [PyData.depthAll]
    omega
theorem plainAll_map {α : Type} {f : α → D} (h : ∀ a, (f a).plain = true) : ∀ (l : List α), PyData.plainAll (l.map f) = true
  | [] => rfl
  | a :: l => by simp only [List.map_cons, PyData.plainAll, h a, plainAll_map h l, Bool.and_true]
section
variable {α : Type} [DecidableEq α] {f : α → D} {k : Nat}
theorem gd_int : Gd PyData.int 0 := ⟨fun _ => rfl, fun a b => rfl, fun _ => by simp [PyData.depth]⟩
theorem gd_sT : Gd sT 0 := ⟨fun _ => rfl, fun a b => by show (T a == T b) = _; exact T_beq a b, fun _ => by show (PyData.str _).depth ≤ 0; simp [PyData.depth]⟩
theorem gd_bl : Gd PyData.bool 0 := ⟨fun _ => rfl, fun a b => by cases a <;> cases b <;> rfl, fun _ => by simp [PyData.depth]⟩
theorem eqvAll_map (g : Gd f k) : ∀ (a b : List α), PyData.eqvAll (a.map f) (b.map f) = decide (a = b)
  | [], [] => rfl
  | [], _ :: _ => rfl
  | _ :: _, [] => rfl
  | x :: a, y :: b => by
    simp only [List.map_cons, PyData.eqvAll, g.eq, eqvAll_map g a b, List.cons.injEq]
    by_cases h1 : x = y <;> by_cases h2 : a = b <;> simp [h1, h2]
theorem gd_tM (g : Gd f k) : Gd (tM f) (k + 1) where
  pl := fun a => by show PyData.plain (.tuple _) = true; simp only [PyData.plain]; exact plainAll_map g.pl a
  eq := fun a b => by show PyData.eqv (.tuple _) (.tuple _) = _; simp only [PyData.eqv]; exact eqvAll_map g a b
  dp := fun a => by
    show PyData.depth (.tuple _) ≤ k + 1
    simp only [PyData.depth]
    have := depthAll_le' (a.map f) k fun d hd => by
      obtain ⟨x, _, rfl⟩ := List.mem_map.mp hd
      exact g.dp x
    omega
theorem gd_lM (g : Gd f k) : Gd (lM f) (k + 1) where
  pl := fun a => by show PyData.plain (.list _) = true; simp only [PyData.plain]; exact plainAll_map g.pl a
  eq := fun a b => by show PyData.eqv (.list _) (.list _) = _; simp only [PyData.eqv]; exact eqvAll_map g a b
  dp := fun a => by
    show PyData.depth (.list _) ≤ k + 1
    simp only [PyData.depth]
    have := depthAll_le' (a.map f) k fun d hd => by
      obtain ⟨x, _, rfl⟩ := List.mem_map.mp hd
      exact g.dp x
    omega
theorem eq_gd (g : Gd f k) (h : k ≤ 60) (a b : α) : cEq (f a) (f b) = some (.bool (decide (a = b))) := by
  unfold cEq gd
  rw [if_pos ⟨g.pl a, g.pl b, by have := g.dp a; omega⟩, g.eq]
theorem ne_gd (g : Gd f k) (h : k ≤ 60) (a b : α) : cNe (f a) (f b) = some (.bool (!decide (a = b))) := by
  unfold cNe gd
  rw [if_pos ⟨g.pl a, g.pl b, by have := g.dp a; omega⟩, g.eq]
variable [BEq α] [LawfulBEq α]
theorem any_gd (g : Gd f k) (a : α) : ∀ (l : List α), (l.map f).any (fun y => PyData.eqv y (f a)) = decide (a ∈ l)
  | [] => rfl
  | b :: l => by
    rw [List.map_cons, List.any_cons, any_gd g a l, g.eq]
    by_cases h : b = a
    · subst h; simp
    · by_cases h2 : a ∈ l
      · simp [h2]
      · have h3 : ¬ a = b := fun z => h z.symm
        simp [h, h2, h3]
theorem in_tM (g : Gd f k) (h : k ≤ 60) (hs : ∀ a x, f a ≠ .str x) (a : α) (l : List α) : cIn (f a) (tM f l) = some (.bool (decide (a ∈ l))) := by
  have e : cIn (f a) (tM f l) = gd ((f a).plain = true ∧ PyData.plainAll (l.map f) = true ∧ min (PyData.depthAll (l.map f)) (f a).depth ≤ 60) (.bool ((l.map f).any fun y => PyData.eqv y (f a))) := by
    unfold cIn tM
    cases f a <;> rfl
  rw [e]
  unfold gd
  rw [if_pos ⟨g.pl a, plainAll_map g.pl l, by have := g.dp a; omega⟩, any_gd g]
theorem in_lM (g : Gd f k) (h : k ≤ 60) (a : α) (l : List α) : cIn (f a) (lM f l) = some (.bool (decide (a ∈ l))) := by
  have e : cIn (f a) (lM f l) = gd ((f a).plain = true ∧ PyData.plainAll (l.map f) = true ∧ min (PyData.depthAll (l.map f)) (f a).depth ≤ 60) (.bool ((l.map f).any fun y => PyData.eqv y (f a))) := by
    unfold cIn lM
    cases f a <;> rfl
  rw [e]
  unfold gd
  rw [if_pos ⟨g.pl a, plainAll_map g.pl l, by have := g.dp a; omega⟩, any_gd g]
theorem in_tS (a : List Nat) (l : List (List Nat)) : cIn (sT a) (tM sT l) = some (.bool (decide (a ∈ l))) := by
  have e : cIn (sT a) (tM sT l) = gd ((sT a).plain = true ∧ PyData.plainAll (l.map sT) = true ∧ min (PyData.depthAll (l.map sT)) (sT a).depth ≤ 60) (.bool ((l.map sT).any fun y => PyData.eqv y (sT a))) := rfl
  rw [e]
  unfold gd
  rw [if_pos ⟨gd_sT.pl a, plainAll_map gd_sT.pl l, by have := gd_sT.dp a; omega⟩, any_gd gd_sT]
end
theorem eq_sT (a b : List Nat) : cEq (sT a) (sT b) = some (.bool (decide (a = b))) := eq_gd gd_sT (by omega) a b
theorem ne_sT (a b : List Nat) : cNe (sT a) (sT b) = some (.bool (!decide (a = b))) := ne_gd gd_sT (by omega) a b
theorem eq_tI (a b : List Int) : cEq (tM PyData.int a) (tM PyData.int b) = some (.bool (decide (a = b))) := eq_gd (gd_tM gd_int) (by omega) a b
theorem ne_tI (a b : List Int) : cNe (tM PyData.int a) (tM PyData.int b) = some (.bool (!decide (a = b))) := ne_gd (gd_tM gd_int) (by omega) a b
theorem eqB (a b : Bool) : cEq (.bool a) (.bool b) = some (.bool (decide (a = b))) := eq_gd gd_bl (by omega) a b
theorem neB (a b : Bool) : cNe (.bool a) (.bool b) = some (.bool (!decide (a = b))) := ne_gd gd_bl (by omega) a b
theorem isN_i (i : Int) : cIs (.int i) .none = some (.bool false) := rfl
theorem isN_b (i : Bool) : cIs (.bool i) .none = some (.bool false) := rfl
theorem isN_s (i : List Nat) : cIs (sT i) .none = some (.bool false) := rfl
theorem isN_t (i : List D) : cIs (.tuple i) .none = some (.bool false) := rfl
theorem isN_m {α : Type} (f : α → D) (i : List α) : cIs (tM f i) .none = some (.bool false) := rfl
theorem isN_l (i : List D) : cIs (.list i) .none = some (.bool false) := rfl
theorem isN_n : cIs .none .none = some (.bool true) := rfl
theorem isnN_i (i : Int) : cIsNot (.int i) .none = some (.bool true) := rfl
theorem isnN_b (i : Bool) : cIsNot (.bool i) .none = some (.bool true) := rfl
theorem isnN_s (i : List Nat) : cIsNot (sT i) .none = some (.bool true) := rfl
theorem isnN_t (i : List D) : cIsNot (.tuple i) .none = some (.bool true) := rfl
theorem isnN_m {α : Type} (f : α → D) (i : List α) : cIsNot (tM f i) .none = some (.bool true) := rfl
theorem isnN_n : cIsNot .none .none = some (.bool false) := rfl
theorem isB (a b : Bool) : cIs (.bool a) (.bool b) = some (.bool (decide (a = b))) := rfl
theorem isnB (a b : Bool) : cIsNot (.bool a) (.bool b) = some (.bool (!decide (a = b))) := rfl
theorem min_ii (i j : Int) : fMin [.int i, .int j] = some (.int (if j < i then j else i)) := rfl
theorem max_ii (i j : Int) : fMax [.int i, .int j] = some (.int (if j > i then j else i)) := rfl
theorem abs_i (i : Int) : fAbs [.int i] = some (.int (if i < 0 then -i else i)) := rfl
theorem int_i (i : Int) : fInt [.int i] = some (.int i) := rfl
theorem int_b (b : Bool) : fInt [.bool b] = some (.int (if b = true then 1 else 0)) := rfl
theorem isi_s0 (b : List Nat) : fIsi [sT b, .dict [(.none, .int 0)]] = some (.bool false) := rfl
theorem isi_s1 (b : List Nat) : fIsi [sT b, .dict [(.none, .int 1)]] = some (.bool true) := rfl
theorem isi_s2 (b : List Nat) : fIsi [sT b, .dict [(.none, .int 2)]] = some (.bool false) := rfl
theorem isi_s3 (b : List Nat) : fIsi [sT b, .dict [(.none, .int 3)]] = some (.bool false) := rfl
theorem isi_s4 (b : List Nat) : fIsi [sT b, .dict [(.none, .int 4)]] = some (.bool false) := rfl
section
variable {α : Type} (f : α → D) (b : List α)
theorem isi_m0 : fIsi [tM f b, .dict [(.none, .int 0)]] = some (.bool false) := rfl
theorem isi_m1 : fIsi [tM f b, .dict [(.none, .int 1)]] = some (.bool false) := rfl
theorem isi_m2 : fIsi [tM f b, .dict [(.none, .int 2)]] = some (.bool false) := rfl
theorem isi_m3 : fIsi [tM f b, .dict [(.none, .int 3)]] = some (.bool true) := rfl
theorem isi_m4 : fIsi [tM f b, .dict [(.none, .int 4)]] = some (.bool false) := rfl
end
theorem kMt_s {m : Mn} {x : List Nat} {ds : List D} (h : rcv m (sT []) = true) : kMt m (.ok (sT x)) (.ok ds) = .ofO (mtd m (sT x) ds) := by
  refine kMt_ok ?_
  cases m <;> first | rfl | cases h
theorem kMt_l {α : Type} {f : α → D} {m : Mn} {x : List α} {ds : List D} (h : rcv m (.list []) = true) : kMt m (.ok (lM f x)) (.ok ds) = .ofO (mtd m (lM f x) ds) := by
  refine kMt_ok ?_
  cases m <;> first | rfl | cases h
theorem kMt_t {α : Type} {f : α → D} {m : Mn} {x : List α} {ds : List D} (h : rcv m (.tuple []) = true) : kMt m (.ok (tM f x)) (.ok ds) = .ofO (mtd m (tM f x) ds) := by
  refine kMt_ok ?_
  cases m <;> first | rfl | cases h
end Bg

set_option Elab.async false
set_option linter.all false
set_option maxRecDepth 100000
set_option maxHeartbeats 4000000
/-! Walks over typed data; sums, joins; texts' own methods. -/
namespace Bg
open PySem PySem.Spec PyProof.Rows L2 PySem.Builtin.Str PySem.Builtin
section
variable {α β : Type}
theorem enum_go {f : α → D} : ∀ (l : List α) (k : Nat), enumD k (l.map f) = (l.zipIdx k).map fun p => PyData.tuple [.int (p.2 : Nat), f p.1]
  | [], _ => rfl
  | a :: l, k => by simp only [List.map_cons, enumD, enum_go l (k + 1), List.zipIdx_cons]
theorem enum_map {f : α → D} (l : List α) : enumD 0 (l.map f) = l.zipIdx.map fun p => PyData.tuple [.int (p.2 : Nat), f p.1] := enum_go l 0
theorem zip_map {f : α → D} {g : β → D} : ∀ (a : List α) (b : List β), zipD (a.map f) (b.map g) = (a.zip b).map fun p => PyData.tuple [f p.1, g p.2]
  | [], _ => by simp [zipD]
  | _ :: _, [] => by simp [zipD]
  | x :: a, y :: b => by simp only [List.map_cons, zipD, zip_map a b, List.zip_cons_cons]
theorem rng_1' {j : Int} (h1 : -1000000 ≤ j) (h2 : j ≤ 1000000) : rngD [.int j] = some (upto 0 j.toNat) := if_pos ⟨h1, h2⟩
theorem rng_2 {i j : Int} (h1 : -1000000 ≤ i) (h2 : i ≤ 1000000) (h3 : -1000000 ≤ j) (h4 : j ≤ 1000000) (h5 : (j - i).toNat ≤ 1000000) : rngD [.int i, .int j] = some (upto i (j - i).toNat) := if_pos ⟨h1, h2, h3, h4, h5⟩
theorem rng_3 {i j c : Int} {n : Nat} (h1 : -1000000 ≤ i) (h2 : i ≤ 1000000) (h3 : -1000000 ≤ j) (h4 : j ≤ 1000000) (h5 : c ≠ 0) (h6 : -1000 ≤ c) (h7 : c ≤ 1000) (h8 : turns i j c = n) (h9 : n ≤ 1000000) : rngD [.int i, .int j, .int c] = some (uptoC i c n) := by
  subst h8
  exact if_pos ⟨h1, h2, h3, h4, h5, h6, h7, h9⟩
theorem upto_map (n : Nat) (lo : Int) : upto lo n = (List.range n).map fun (i : Nat) => PyData.int (lo + (i : Int)) := by
  rw [ints_upto, List.map_map]
  rfl
theorem rng_1 {j : Int} (h1 : -1000000 ≤ j) (h2 : j ≤ 1000000) : rngD [.int j] = some ((List.range j.toNat).map fun (i : Nat) => PyData.int (i : Int)) := by
  rw [rng_1' h1 h2, upto_map]
  simp only [Int.zero_add]
theorem uptoC_map (n : Nat) (lo c : Int) : uptoC lo c n = (List.range n).map fun (i : Nat) => PyData.int (lo + (i : Int) * c) := by
  rw [ints_uptoC, List.map_map]
  rfl
theorem asI_m (l : List Int) : asI (l.map .int) = some l := by
  induction l with
  | nil => rfl
  | cons a l ih => simp only [List.map_cons, asI, ih, Option.map_some]
theorem asB_m (l : List Bool) : asB (l.map .bool) = some l := by
  induction l with
  | nil => rfl
  | cons a l ih => simp only [List.map_cons, asB, ih, Option.map_some]
theorem sum_I (l : List Int) : fSum [lM PyData.int l] = some (.int l.sum) := by
  show (asI (l.map .int)).map _ = _
  rw [asI_m]; rfl
theorem sum_tI (l : List Int) : fSum [tM PyData.int l] = some (.int l.sum) := by
  show (asI (l.map .int)).map _ = _
  rw [asI_m]; rfl
theorem all_B (l : List Bool) : fAll [lM PyData.bool l] = some (.bool (l.all id)) := by
  show (asB (l.map .bool)).map _ = _
  rw [asB_m]; rfl
theorem asS_m (l : List (List Nat)) : asS (l.map sT) = some (l.map T) := by
  induction l with
  | nil => rfl
  | cons a l ih =>
    rw [List.map_cons]
    show asS (PyData.str (T a) :: l.map sT) = _
    simp only [asS, ih, Option.map_some, List.map_cons]
theorem join_T (ls : List (List Nat)) : Txt.join (T []) (ls.map T) = T ls.flatten := by
  have e : ∀ ls : List (List Nat), Str.join (T []) (ls.map T) = T ls.flatten := by
    intro ls
    induction ls with
    | nil => rfl
    | cons a r ih =>
      cases r with
      | nil => simp [Str.join]
      | cons b r =>
        show T a ++ T [] ++ Str.join (T []) ((b :: r).map T) = _
        rw [ih, T_app a [], List.append_nil, T_app a (b :: r).flatten]
        rfl
  show Builtin.Str.glued (T []) _ = _
  rw [StrLaws.glued_eq_join]
  exact e ls
theorem sumLen_T (ls : List (List Nat)) : sumLen (ls.map T) = ls.flatten.length := by
  unfold sumLen
  induction ls with
  | nil => rfl
  | cons a r ih => simp only [List.map_cons, List.sum_cons, ih, T_len, List.flatten_cons, List.length_append]
theorem join_S {l : List (List Nat)} (h : l.flatten.length ≤ 1000000) : mJoin (sT []) [lM sT l] = some (sT l.flatten) := by
  show (asS (l.map sT)).bind _ = _
  rw [asS_m]
  show gd _ _ = _
  unfold gd
  rw [if_pos (by rw [join_T, sumLen_T, T_len]; exact ⟨by show _ + _ * 0 ≤ _; omega, h⟩), join_T]
  rfl
theorem inS_one (c : Nat) (l : List Nat) : inS (T [c]) (T l) = decide (c ∈ l) := rfl
theorem in_c (c : Nat) (l : List Nat) : cIn (sT [c]) (sT l) = some (.bool (decide (c ∈ l))) := rfl
theorem nin_c (c : Nat) (l : List Nat) : cNotIn (sT [c]) (sT l) = some (.bool (!decide (c ∈ l))) := rfl
theorem nin_of {a b : D} {k : Bool} (h : cIn a b = some (.bool k)) : cNotIn a b = some (.bool (!k)) := by
  unfold cNotIn
  rw [h]
  rfl
/-! comprehensions -/
theorem lc_m {f : D → Res (Option D)} {enc : α → D} (g : β → D) (h : α → β) {l : List α} (q : ∀ a ∈ l, f (enc a) = .ok (some (g (h a)))) : kLc2 (collect f (l.map enc)) = .ok (lM g (l.map h)) := by
  rw [collect_mapm l q]
  show Res.ok (PyData.list _) = _
  unfold lM
  rw [List.map_map]
  rfl
theorem lc_f {f : D → Res (Option D)} {enc : α → D} (g : β → D) (h : α → β) (p : α → Bool) {l : List α} (q : ∀ a ∈ l, f (enc a) = .ok (if p a = true then some (g (h a)) else none)) : kLc2 (collect f (l.map enc)) = .ok (lM g ((l.filter p).map h)) := by
  rw [collect_fil (g := fun a => g (h a)) l q]
  show Res.ok (PyData.list _) = _
  unfold lM
  rw [List.map_map]
  rfl
end
section
variable (P : Pt) (cl : Nat → List D → Res D) (ρ : List Sl)
theorem bind_2I (i j : Nat) (x y : Int) : bindT ρ (.tup [i, j]) (tM PyData.int [x, y]) = some ((ρ.set i (.val (.int x))).set j (.val (.int y))) := rfl
theorem bind_3I (i j k : Nat) (x y z : Int) : bindT ρ (.tup [i, j, k]) (tM PyData.int [x, y, z]) = some (((ρ.set i (.val (.int x))).set j (.val (.int y))).set k (.val (.int z))) := rfl
theorem forF_2I (i j : Nat) (b : Sxs) (x y : Int) : forF P cl (.tup [i, j]) b ρ (tM PyData.int [x, y]) = evSs P cl ((ρ.set i (.val (.int x))).set j (.val (.int y))) b := rfl
theorem forF_3I (i j k : Nat) (b : Sxs) (x y z : Int) : forF P cl (.tup [i, j, k]) b ρ (tM PyData.int [x, y, z]) = evSs P cl (((ρ.set i (.val (.int x))).set j (.val (.int y))).set k (.val (.int z))) b := rfl
theorem bind_2S (i j : Nat) (x y : List Nat) : bindT ρ (.tup [i, j]) (tM sT [x, y]) = some ((ρ.set i (.val (sT x))).set j (.val (sT y))) := rfl
theorem forF_2S (i j : Nat) (b : Sxs) (x y : List Nat) : forF P cl (.tup [i, j]) b ρ (tM sT [x, y]) = evSs P cl ((ρ.set i (.val (sT x))).set j (.val (sT y))) b := rfl
end
theorem one_inj (a b : Nat) : ([a] = [b]) = (a = b) := by simp
theorem lst_nil {α : Type} (f : α → D) : lM f [] = .list [] := rfl
/-! ### texts: where a sign stands -/
theorem occ_find (s sub : Str) (hi : Nat) : ∀ (l : List Nat) (free : Nat), (∀ i ∈ l, free ≤ i) →
    (forIn l ((#[] : Array Nat), free) (StrLaws.occBody s sub hi 1)).run.fst.toList = (l.find? fun i => decide (i + sub.length ≤ hi ∧ Builtin.Str.subAt s sub i = true)).toList
  | [], _, _ => rfl
  | a :: l, free, hf => by
    rw [List.forIn_cons, List.find?_cons]
    unfold StrLaws.occBody
    have ha : free ≤ a := hf a List.mem_cons_self
    by_cases hc : a + sub.length ≤ hi ∧ Builtin.Str.subAt s sub a = true
    · rw [if_pos ⟨⟨⟨by simp, ha⟩, hc.1⟩, hc.2⟩, decide_eq_true hc]
      have full : ∀ (l : List Nat) (f : Nat), (forIn l ((#[a] : Array Nat), f) (StrLaws.occBody s sub hi 1)).run.fst.toList = [a] := by
        intro l
        induction l with
        | nil => intro f; rfl
        | cons b l ih =>
          intro f
          rw [List.forIn_cons]
          unfold StrLaws.occBody
          rw [if_neg (fun z => by have := z.1.1.1; simp at this)]
          exact ih f
      exact full l _
    · rw [if_neg (fun z => hc ⟨z.1.2, z.2⟩), decide_eq_false hc]
      exact occ_find s sub hi l free fun i hi' => hf i (List.mem_cons_of_mem _ hi')
theorem find_range (l : List Nat) (c : Nat) : ∀ (n k : Nat), k + n = l.length + 1 → (∀ j, j < k → l[j]? ≠ some c) → ((List.range' k n).find? fun i => decide (l[i]? = some c)) = if c ∈ l then some (l.idxOf c) else none
  | 0, k, h, hk => by
    have hn : c ∉ l := fun z => by
      obtain ⟨j, hj⟩ := List.mem_iff_getElem?.mp z
      have : j < l.length := (List.getElem?_eq_some_iff.mp hj).1
      exact hk j (by omega) hj
    rw [if_neg hn]
    rfl
  | n + 1, k, h, hk => by
    rw [List.range'_succ, List.find?_cons]
    by_cases e : l[k]? = some c
    · rw [decide_eq_true e]
      have hm : c ∈ l := List.mem_of_getElem? e
      rw [if_pos hm]
      show some k = _
      congr 1
      have hlt : k < l.length := (List.getElem?_eq_some_iff.mp e).1
      have h1 : l.idxOf c < l.length := List.idxOf_lt_length_of_mem hm
      have h2 : l[l.idxOf c]? = some c := by rw [List.getElem?_eq_getElem h1, List.getElem_idxOf h1]
      rcases Nat.lt_trichotomy (l.idxOf c) k with q | q | q
      · exact absurd h2 (hk _ q)
      · exact q.symm
      · exfalso
        have h3 := List.not_of_lt_findIdx (xs := l) (p := fun x => x == c) (i := k) q
        have h4 : l[k] = c := (List.getElem?_eq_some_iff.mp e).2
        simp [h4] at h3
    · rw [decide_eq_false e]
      exact find_range l c n (k + 1) (by omega) fun j hj => by
        rcases Nat.lt_or_ge j k with q | q
        · exact hk j q
        · have : j = k := by omega
          rw [this]; exact e
theorem occ_one (l : List Nat) (c : Nat) : Builtin.Str.occurrences (T l) (T [c]) 0 (T l).length 1 = if c ∈ l then [l.idxOf c] else [] := by
  rw [StrLaws.occ_eq, occ_find _ _ _ _ 0 (fun _ _ => Nat.zero_le _)]
  have e : (fun i => decide (i + (T [c]).length ≤ (T l).length ∧ Builtin.Str.subAt (T l) (T [c]) i = true)) = fun i => decide (l[i]? = some c) := by
    funext i
    refine decide_eq_decide.mpr ?_
    rw [StrLaws.subAt_one (T l) c i, T_cps]
  rw [e, T_len, find_range l c (l.length + 1 - 0) 0 (by omega) (fun j hj => by omega)]
  split <;> rfl
theorem index_c {l : List Nat} {c : Nat} (h : c ∈ l) : mIndexS (sT l) [sT [c]] = some (.int (l.idxOf c : Nat)) := by
  show (match Builtin.Str.occurrences (T l) (T [c]) 0 (T l).length 1 with | i :: _ => some (PyData.int (i : Nat)) | [] => none) = _
  rw [occ_one, if_pos h]
theorem idx_map {α : Type} [DecidableEq α] [BEq α] [LawfulBEq α] {f : α → D} {k : Nat} (g : Gd f k) (a : α) : ∀ (l : List α), a ∈ l → (((l.map f).map fun y => PyData.eqv y (f a)).idxOf true = l.idxOf a) ∧ true ∈ (l.map f).map fun y => PyData.eqv y (f a)
  | [], h => by cases h
  | b :: l, h => by
    rw [List.map_cons, List.map_cons, g.eq]
    by_cases e : b = a
    · subst e
      rw [decide_eq_true rfl]
      simp
    · have hm : a ∈ l := by
        rcases List.mem_cons.mp h with z | z
        · exact absurd z.symm e
        · exact z
      obtain ⟨h1, h2⟩ := idx_map g a l hm
      rw [decide_eq_false e]
      refine ⟨?_, List.mem_cons_of_mem _ h2⟩
      rw [List.idxOf_cons, List.idxOf_cons, h1]
      have e2 : (b == a) = false := by simpa using e
      rw [e2]
      rfl
theorem idxD_gd {α : Type} [DecidableEq α] [BEq α] [LawfulBEq α] {f : α → D} {k : Nat} (g : Gd f k) {a : α} {l : List α} (h : a ∈ l) : idxD (l.map f) (f a) = some (l.idxOf a) := by
  obtain ⟨h1, h2⟩ := idx_map g a l h
  unfold idxD
  rw [if_pos h2, h1]
theorem index_tM {α : Type} [DecidableEq α] [BEq α] [LawfulBEq α] {f : α → D} {k : Nat} (g : Gd f k) (hk : k ≤ 60) {a : α} {l : List α} (h : a ∈ l) : mIndexT (tM f l) [f a] = some (.int (l.idxOf a : Nat)) := by
  unfold mIndexT tM
  dsimp only
  rw [if_pos ⟨g.pl a, plainAll_map g.pl l, by have := g.dp a; omega⟩, idxD_gd g h]
  rfl
theorem index_lM {α : Type} [DecidableEq α] [BEq α] [LawfulBEq α] {f : α → D} {k : Nat} (g : Gd f k) (hk : k ≤ 60) {a : α} {l : List α} (h : a ∈ l) : mIndexL (lM f l) [f a] = some (.int (l.idxOf a : Nat)) := by
  unfold mIndexL lM
  dsimp only
  rw [if_pos ⟨g.pl a, plainAll_map g.pl l, by have := g.dp a; omega⟩, idxD_gd g h]
  rfl
/-! ### strip -/
def stripL (c : Nat) (l : List Nat) : List Nat := (((l.dropWhile (· == c)).reverse).dropWhile (· == c)).reverse
theorem drop_takeWhile {α : Type} (p : α → Bool) : ∀ l : List α, l.drop (l.takeWhile p).length = l.dropWhile p
  | [] => rfl
  | a :: l => by
    rw [List.takeWhile_cons, List.dropWhile_cons]
    by_cases h : p a = true
    · rw [if_pos h, if_pos h]
      simpa using drop_takeWhile p l
    · rw [if_neg h, if_neg h]
      rfl
theorem extract_T (l : List Nat) (i j : Nat) : Builtin.Str.strSub (T l) i j = T ((l.drop i).take (j - i)) := by
  unfold Builtin.Str.strSub
  congr 1
  apply Array.toList_inj.mp
  simp [Array.toList_extract, List.extract_eq_take_drop]
theorem strip_T (c : Nat) (l : List Nat) : Txt.stripChars (T l) (T [c]) = T (stripL c l) := by
  unfold Txt.stripChars
  rw [stripBy_eq, extract_T]
  congr 1
  have hp : (T [c]).cps.contains = fun x => x == c := by
    funext x
    by_cases h : x = c <;> simp [h, Array.contains]
  have hl : (T l).length = l.length := T_len l
  simp only [stripLo, stripHi, if_true, T_cps, hp, hl]
  rw [drop_takeWhile]
  unfold stripL
  generalize hm : l.dropWhile (fun x => x == c) = m
  have hlen : l.length = (l.takeWhile fun x => x == c).length + m.length := by
    rw [← hm, ← List.length_append, List.takeWhile_append_dropWhile]
  have h1 : m.reverse = m.reverse.takeWhile (fun x => x == c) ++ m.reverse.dropWhile (fun x => x == c) := (List.takeWhile_append_dropWhile ..).symm
  have h2 : m = (m.reverse.dropWhile fun x => x == c).reverse ++ (m.reverse.takeWhile fun x => x == c).reverse := by
    rw [← List.reverse_append, ← h1, List.reverse_reverse]
  have h3 : (m.reverse.takeWhile fun x => x == c).length + (m.reverse.dropWhile fun x => x == c).length = m.length := by
    rw [← List.length_append, List.takeWhile_append_dropWhile, List.length_reverse]
  have h4 : l.length - (m.reverse.takeWhile fun x => x == c).length - (l.takeWhile fun x => x == c).length = (m.reverse.dropWhile fun x => x == c).reverse.length := by
    rw [List.length_reverse]; omega
  rw [h4]
  conv => lhs; rw [h2]
  rw [List.take_left']
  simp
theorem strip_c {c : Nat} {l : List Nat} (h : l.length ≤ 1000000) : mStrip (sT l) [sT [c]] = some (sT (stripL c l)) := by
  show gd _ _ = _
  unfold gd
  rw [if_pos (Nat.le_trans (len_stripChars _ _) (by rw [T_len]; exact h)), strip_T]
  rfl
/-! ### how often a sign stands -/
theorem occ_all (s sub : Str) (hi lim : Nat) (hsub : sub.length = 1) : ∀ (l : List Nat) (found : Array Nat) (free : Nat), (∀ i ∈ l, free ≤ i) → l.Pairwise (· < ·) → found.size + l.length ≤ lim →
    (forIn l (found, free) (StrLaws.occBody s sub hi lim)).run.fst.toList = found.toList ++ l.filter fun i => decide (i + sub.length ≤ hi ∧ Builtin.Str.subAt s sub i = true)
  | [], found, _, _, _, _ => by simp
  | a :: l, found, free, hf, hp, hs => by
    rw [List.forIn_cons, List.filter_cons]
    unfold StrLaws.occBody
    have ha : free ≤ a := hf a List.mem_cons_self
    have hp' := List.pairwise_cons.mp hp
    rw [List.length_cons] at hs
    by_cases hc : a + sub.length ≤ hi ∧ Builtin.Str.subAt s sub a = true
    · rw [if_pos ⟨⟨⟨by show found.size < lim; omega, ha⟩, hc.1⟩, hc.2⟩, if_pos (decide_eq_true hc)]
      have := occ_all s sub hi lim hsub l (found.push a) (a + sub.length) (fun i hi' => by have := hp'.1 i hi'; omega) hp'.2 (by rw [Array.size_push]; omega)
      refine this.trans ?_
      simp
    · rw [if_neg (fun z => hc ⟨z.1.2, z.2⟩), if_neg (by simpa using hc)]
      exact occ_all s sub hi lim hsub l found free (fun i hi' => hf i (List.mem_cons_of_mem _ hi')) hp'.2 (by omega)
theorem filter_count (c : Nat) : ∀ (l pre : List Nat), ((List.range' pre.length l.length).filter fun i => decide ((pre ++ l)[i]? = some c)).length = l.count c
  | [], pre => by simp
  | a :: l, pre => by
    have ih := filter_count c l (pre ++ [a])
    rw [List.length_append, List.length_cons, List.length_nil, Nat.zero_add, List.append_assoc] at ih
    rw [List.length_cons, List.range'_succ, List.filter_cons, List.count_cons]
    have e : (pre ++ a :: l)[pre.length]? = some a := by rw [List.getElem?_append_right (Nat.le_refl _), Nat.sub_self]; rfl
    rw [e]
    have e2 : pre ++ a :: l = pre ++ ([a] ++ l) := rfl
    rw [e2]
    by_cases h : a = c
    · subst h
      simp only [decide_true, if_true, List.length_cons, ih, beq_self_eq_true]
    · have h1 : ¬ (some a = some c) := fun z => h (Option.some.inj z)
      have h2 : (a == c) = false := by simpa using h
      simp only [h1, decide_false, h2]
      simpa using ih
theorem count_c (l : List Nat) (c : Nat) : mCountS (sT l) [sT [c]] = some (.int (l.count c : Nat)) := by
  show some (PyData.int (Txt.count (T l) (T [c]))) = _
  unfold Txt.count
  rw [StrLaws.occ_eq, occ_all _ _ _ _ rfl _ #[] 0 (fun _ _ => Nat.zero_le _) (List.pairwise_lt_range') (by rw [List.length_range', T_len]; simp)]
  have e : (fun i => decide (i + (T [c]).length ≤ (T l).length ∧ Builtin.Str.subAt (T l) (T [c]) i = true)) = fun i => decide (l[i]? = some c) := by
    funext i
    refine decide_eq_decide.mpr ?_
    rw [StrLaws.subAt_one (T l) c i, T_cps]
  rw [e, T_len]
  have h0 := filter_count c l []
  rw [List.length_nil, List.nil_append] at h0
  have h1 : List.range' 0 (l.length + 1 - 0) = List.range' 0 l.length ++ [l.length] := by
    rw [Nat.sub_zero, List.range'_concat]
    simp
  rw [h1, List.filter_append, Array.toList_empty, List.nil_append, List.length_append, h0]
  have h2 : (List.filter (fun i => decide (l[i]? = some c)) [l.length]) = [] := by simp
  rw [h2]
  simp
end Bg

set_option Elab.async false
set_option linter.all false
set_option maxRecDepth 100000
set_option maxHeartbeats 4000000
namespace Bg
open PySem PySem.Spec PyProof.Rows L2
theorem EV0 : (type_of% @e_var) ∧ (type_of% @e_pk) ∧ (type_of% @e_con) ∧ (type_of% @e_fn) ∧ (type_of% @e_ty) ∧ (type_of% @e_int) ∧ (type_of% @e_str) ∧ (type_of% @e_bl) ∧ (type_of% @e_non) ∧ (type_of% @e_tup) ∧ (type_of% @e_lst) ∧ (type_of% @e_bin) ∧ (type_of% @e_neg) ∧ (type_of% @e_not) ∧ (type_of% @e_and) ∧ (type_of% @e_or) ∧ (type_of% @e_one) ∧ (type_of% @e_cmp) ∧ (type_of% @e_chn) ∧ (type_of% @e_ite) ∧ (type_of% @e_sub) ∧ (type_of% @e_sl) ∧ (type_of% @e_sls) ∧ (type_of% @e_call) ∧ (type_of% @e_bc) ∧ (type_of% @e_mt) ∧ (type_of% @e_lc) ∧ (type_of% @e_lrng) ∧ (type_of% @e_inr) ∧ (type_of% @e_callv) ∧ (type_of% @l_nil) ∧ (type_of% @l_cons) ∧ (type_of% @o_no) ∧ (type_of% @o_some) ∧ (type_of% @k_no) ∧ (type_of% @k_some) ∧ (type_of% @r_it) ∧ (type_of% @r_rng) ∧ (type_of% @r_enum) ∧ (type_of% @r_zp) ∧ (type_of% @q_nil') ∧ (type_of% @q_cons') ∧ (type_of% @s_ex') ∧ (type_of% @s_set') ∧ (type_of% @s_own') ∧ (type_of% @s_par') ∧ (type_of% @s_unp') ∧ (type_of% @s_app') ∧ (type_of% @s_ext') ∧ (type_of% @s_seti') ∧ (type_of% @s_ret') ∧ (type_of% @s_ite') ∧ (type_of% @s_for') ∧ (type_of% @s_pass') ∧ (type_of% @s_frz') ∧ (type_of% @e_getd) ∧ (type_of% @e_repl) ∧ (type_of% @e_lack) ∧ (type_of% @e_lackc) ∧ (type_of% @s_newd') := ⟨@e_var, @e_pk, @e_con, @e_fn, @e_ty, @e_int, @e_str, @e_bl, @e_non, @e_tup, @e_lst, @e_bin, @e_neg, @e_not, @e_and, @e_or, @e_one, @e_cmp, @e_chn, @e_ite, @e_sub, @e_sl, @e_sls, @e_call, @e_bc, @e_mt, @e_lc, @e_lrng, @e_inr, @e_callv, @l_nil, @l_cons, @o_no, @o_some, @k_no, @k_some, @r_it, @r_rng, @r_enum, @r_zp, @q_nil', @q_cons', @s_ex', @s_set', @s_own', @s_par', @s_unp', @s_app', @s_ext', @s_seti', @s_ret', @s_ite', @s_for', @s_pass', @s_frz', @e_getd, @e_repl, @e_lack, @e_lackc, @s_newd'⟩
theorem EV1 : (type_of% @s_setd') ∧ (type_of% @kGd_IS) ∧ (type_of% @kSt_setd_IS) ∧ (type_of% @s_raise') ∧ (type_of% @s_tryo') ∧ (type_of% @s_try2') ∧ (type_of% @s_tryw') ∧ (type_of% @s_tryi') ∧ (type_of% @kTry_nx) ∧ (type_of% @kTry_ret) ∧ (type_of% @kTry_ex) ∧ (type_of% @kTry2_nx) ∧ (type_of% @kTry2_ret) ∧ (type_of% @kTry2_ex) ∧ (type_of% @kTryR_nx) ∧ (type_of% @kTryR_ret) ∧ (type_of% @kTryR_ex) ∧ (type_of% @sub_0) ∧ (type_of% @if_true_t) ∧ (type_of% @slotV_val) ∧ (type_of% @slotO_own) ∧ (type_of% @conV_some) ∧ (type_of% @fnV_some) ∧ (type_of% @k2_ok) ∧ (type_of% @kNeg_ok) ∧ (type_of% @kNot_ok) ∧ (type_of% @kNot2_ok) ∧ (type_of% @kTup_ok) ∧ (type_of% @kLst_ok) ∧ (type_of% @kCons_ok) ∧ (type_of% @kSl_ok) ∧ (type_of% @kOx_ok) ∧ (type_of% @kAp_ok) ∧ (type_of% @kAp_ex) ∧ (type_of% @kBc_ok) ∧ (type_of% @kMt_s) ∧ (type_of% @kMt_l) ∧ (type_of% @kMt_t) ∧ (type_of% @kLc_ok) ∧ (type_of% @kLc2_ok) ∧ (type_of% @kInr_ok) ∧ (type_of% @kTru_ok) ∧ (type_of% @kTru_ex) ∧ (type_of% @kIt_ok) ∧ (type_of% @kRng_ok) ∧ (type_of% @kEnum_ok) ∧ (type_of% @kZip_ok) ∧ (type_of% @kZp_ok) ∧ (type_of% @kAnd_ok) ∧ (type_of% @kAnd2_t) ∧ (type_of% @kAnd2_f) ∧ (type_of% @kOr_ok) ∧ (type_of% @kOr2_t) ∧ (type_of% @kOr2_f) ∧ (type_of% @kIte_t) ∧ (type_of% @kIte_f) ∧ (type_of% @kChn_ok) ∧ (type_of% @kChn2_t) ∧ (type_of% @kChn2_f) ∧ (type_of% @kSeq_nx) := ⟨@s_setd', @kGd_IS, @kSt_setd_IS, @s_raise', @s_tryo', @s_try2', @s_tryw', @s_tryi', @kTry_nx, @kTry_ret, @kTry_ex, @kTry2_nx, @kTry2_ret, @kTry2_ex, @kTryR_nx, @kTryR_ret, @kTryR_ex, @sub_0, @if_true_t, @slotV_val, @slotO_own, @conV_some, @fnV_some, @k2_ok, @kNeg_ok, @kNot_ok, @kNot2_ok, @kTup_ok, @kLst_ok, @kCons_ok, @kSl_ok, @kOx_ok, @kAp_ok, @kAp_ex, @kBc_ok, @kMt_s, @kMt_l, @kMt_t, @kLc_ok, @kLc2_ok, @kInr_ok, @kTru_ok, @kTru_ex, @kIt_ok, @kRng_ok, @kEnum_ok, @kZip_ok, @kZp_ok, @kAnd_ok, @kAnd2_t, @kAnd2_f, @kOr_ok, @kOr2_t, @kOr2_f, @kIte_t, @kIte_f, @kChn_ok, @kChn2_t, @kChn2_f, @kSeq_nx⟩
theorem EV2 : (type_of% @kSeq_ret) ∧ (type_of% @kSeq_ex) ∧ (type_of% @kSt_ex) ∧ (type_of% @kSt_set) ∧ (type_of% @kSt_own) ∧ (type_of% @kSt_par) ∧ (type_of% @kSt_unp) ∧ (type_of% @kSt_ret) ∧ (type_of% @kSt_drop) ∧ (type_of% @kSt_t) ∧ (type_of% @kSt_f) ∧ (type_of% @kSt_for) ∧ (type_of% @fOpt_some) ∧ (type_of% @frzV_own) ∧ (type_of% @appV_own) ∧ (type_of% @extV_own) ∧ (type_of% @fin_nx) ∧ (type_of% @fin_ret) ∧ (type_of% @fin_ex) ∧ (type_of% @nx_nx) ∧ (type_of% @kSome_ok) ∧ (type_of% @kGo_t) ∧ (type_of% @kGo_f) ∧ (type_of% @kGo_b) ∧ (type_of% @lcN_some) ∧ (type_of% @lcI_some) ∧ (type_of% @lc_N) ∧ (type_of% @lc_I) ∧ (type_of% @bind_1) ∧ (type_of% @bind_2) ∧ (type_of% @bind_3) ∧ (type_of% @bind_4) ∧ (type_of% @forF_1) ∧ (type_of% @forF_2) ∧ (type_of% @forF_3) ∧ (type_of% @forF_4) ∧ (type_of% @par_n) ∧ (type_of% @par_v) ∧ (type_of% @par_o) ∧ (type_of% @mul_r) ∧ (type_of% @mul_l) ∧ (type_of% @mod_i) ∧ (type_of% @fdiv_i) ∧ (type_of% @add_i) ∧ (type_of% @sub_i) ∧ (type_of% @ltI) ∧ (type_of% @leI) ∧ (type_of% @gtI) ∧ (type_of% @geI) ∧ (type_of% @eqI) ∧ (type_of% @neI) ∧ (type_of% @truB) ∧ (type_of% @truI) ∧ (type_of% @bnot_t) ∧ (type_of% @bnot_f) ∧ (type_of% @len_l) ∧ (type_of% @len_t) ∧ (type_of% @len_c) ∧ (type_of% @tup_l) ∧ (type_of% @tup_t) := ⟨@kSeq_ret, @kSeq_ex, @kSt_ex, @kSt_set, @kSt_own, @kSt_par, @kSt_unp, @kSt_ret, @kSt_drop, @kSt_t, @kSt_f, @kSt_for, @fOpt_some, @frzV_own, @appV_own, @extV_own, @fin_nx, @fin_ret, @fin_ex, @nx_nx, @kSome_ok, @kGo_t, @kGo_f, @kGo_b, @lcN_some, @lcI_some, @lc_N, @lc_I, @bind_1, @bind_2, @bind_3, @bind_4, @forF_1, @forF_2, @forF_3, @forF_4, @par_n, @par_v, @par_o, @mul_r, @mul_l, @mod_i, @fdiv_i, @add_i, @sub_i, @ltI, @leI, @gtI, @geI, @eqI, @neI, @truB, @truI, @bnot_t, @bnot_f, @len_l, @len_t, @len_c, @tup_l, @tup_t⟩
theorem EV3 : (type_of% @list_t) ∧ (type_of% @list_l) ∧ (type_of% @isi_none0) ∧ (type_of% @isi_none1) ∧ (type_of% @isi_none2) ∧ (type_of% @isi_none3) ∧ (type_of% @isi_none4) ∧ (type_of% @isi_bool0) ∧ (type_of% @isi_bool1) ∧ (type_of% @isi_bool2) ∧ (type_of% @isi_bool3) ∧ (type_of% @isi_bool4) ∧ (type_of% @isi_int0) ∧ (type_of% @isi_int1) ∧ (type_of% @isi_int2) ∧ (type_of% @isi_int3) ∧ (type_of% @isi_int4) ∧ (type_of% @isi_list0) ∧ (type_of% @isi_list1) ∧ (type_of% @isi_list2) ∧ (type_of% @isi_list3) ∧ (type_of% @isi_list4) ∧ (type_of% @isi_tuple0) ∧ (type_of% @isi_tuple1) ∧ (type_of% @isi_tuple2) ∧ (type_of% @isi_tuple3) ∧ (type_of% @isi_tuple4) ∧ (type_of% @isi_s0) ∧ (type_of% @isi_s1) ∧ (type_of% @isi_s2) ∧ (type_of% @isi_s3) ∧ (type_of% @isi_s4) ∧ (type_of% @isi_m0) ∧ (type_of% @isi_m1) ∧ (type_of% @isi_m2) ∧ (type_of% @isi_m3) ∧ (type_of% @isi_m4) ∧ (type_of% @str_lit) ∧ (type_of% @tupI_0) ∧ (type_of% @tupI_1) ∧ (type_of% @tupI_2) ∧ (type_of% @tupI_3) ∧ (type_of% @tupI_4) ∧ (type_of% @tupI_5) ∧ (type_of% @tupI_6) ∧ (type_of% @len_sT) ∧ (type_of% @len_tM) ∧ (type_of% @len_lM) ∧ (type_of% @add_sT) ∧ (type_of% @add_tM) ∧ (type_of% @add_lM) ∧ (type_of% @mul_sT) ∧ (type_of% @items_sT) ∧ (type_of% @items_tM) ∧ (type_of% @items_lM) ∧ (type_of% @sl_sT) ∧ (type_of% @sl_tM) ∧ (type_of% @sl_lM) ∧ (type_of% @rev_sT) ∧ (type_of% @rev_tM) := ⟨@list_t, @list_l, @isi_none0, @isi_none1, @isi_none2, @isi_none3, @isi_none4, @isi_bool0, @isi_bool1, @isi_bool2, @isi_bool3, @isi_bool4, @isi_int0, @isi_int1, @isi_int2, @isi_int3, @isi_int4, @isi_list0, @isi_list1, @isi_list2, @isi_list3, @isi_list4, @isi_tuple0, @isi_tuple1, @isi_tuple2, @isi_tuple3, @isi_tuple4, @isi_s0, @isi_s1, @isi_s2, @isi_s3, @isi_s4, @isi_m0, @isi_m1, @isi_m2, @isi_m3, @isi_m4, @str_lit, @tupI_0, @tupI_1, @tupI_2, @tupI_3, @tupI_4, @tupI_5, @tupI_6, @len_sT, @len_tM, @len_lM, @add_sT, @add_tM, @add_lM, @mul_sT, @items_sT, @items_tM, @items_lM, @sl_sT, @sl_tM, @sl_lM, @rev_sT, @rev_tM⟩
theorem EV4 : (type_of% @rev_lM) ∧ (type_of% @ev_tM) ∧ (type_of% @tup_lM) ∧ (type_of% @tup_tM) ∧ (type_of% @list_tM) ∧ (type_of% @list_lM) ∧ (type_of% @list_sT) ∧ (type_of% @eq_sT) ∧ (type_of% @ne_sT) ∧ (type_of% @eq_tI) ∧ (type_of% @ne_tI) ∧ (type_of% @isN_i) ∧ (type_of% @isN_b) ∧ (type_of% @isN_s) ∧ (type_of% @isN_t) ∧ (type_of% @isN_m) ∧ (type_of% @isN_l) ∧ (type_of% @isN_n) ∧ (type_of% @isnN_i) ∧ (type_of% @isnN_b) ∧ (type_of% @isnN_s) ∧ (type_of% @isnN_t) ∧ (type_of% @isnN_m) ∧ (type_of% @isnN_n) ∧ (type_of% @isB) ∧ (type_of% @isnB) ∧ (type_of% @eqB) ∧ (type_of% @neB) ∧ (type_of% @min_ii) ∧ (type_of% @max_ii) ∧ (type_of% @abs_i) ∧ (type_of% @int_i) ∧ (type_of% @int_b) ∧ (type_of% @rng_1) ∧ (type_of% @rng_2) ∧ (type_of% @upto_map) ∧ (type_of% @enum_map) ∧ (type_of% @zip_map) ∧ (type_of% @sum_I) ∧ (type_of% @sum_tI) ∧ (type_of% @all_B) ∧ (type_of% @join_S) ∧ (type_of% @in_c) ∧ (type_of% @nin_c) ∧ (type_of% @bind_2I) ∧ (type_of% @bind_3I) ∧ (type_of% @forF_2I) ∧ (type_of% @forF_3I) ∧ (type_of% @bind_2S) ∧ (type_of% @forF_2S) ∧ (type_of% @lst_nil) ∧ (type_of% @one_inj) := ⟨@rev_lM, @ev_tM, @tup_lM, @tup_tM, @list_tM, @list_lM, @list_sT, @eq_sT, @ne_sT, @eq_tI, @ne_tI, @isN_i, @isN_b, @isN_s, @isN_t, @isN_m, @isN_l, @isN_n, @isnN_i, @isnN_b, @isnN_s, @isnN_t, @isnN_m, @isnN_n, @isB, @isnB, @eqB, @neB, @min_ii, @max_ii, @abs_i, @int_i, @int_b, @rng_1, @rng_2, @upto_map, @enum_map, @zip_map, @sum_I, @sum_tI, @all_B, @join_S, @in_c, @nin_c, @bind_2I, @bind_3I, @forF_2I, @forF_3I, @bind_2S, @forF_2S, @lst_nil, @one_inj⟩
end Bg

set_option Elab.async false
set_option linter.all false
set_option maxRecDepth 100000
set_option maxHeartbeats 4000000
/-! Draws, rows, pictures. -/
namespace Bg
open PySem PySem.Spec PyProof.Rows L2
theorem lev {n k : Nat} (h : k + 1 ≤ n) : ∃ m, n = m + 1 ∧ k ≤ m := ⟨n - 1, by omega, by omega⟩
/-! ### draws -/
def cellAt (ns : List Int) (k : Int) : Int := if k < ns.length then ns.getD k.toNat 0 else 0
def mix (c p m : Int) : Int := (c * 48271 % p) * (c * 48271 % p + 7) % p % m
theorem mix_nn {c p m : Int} (h : 0 < m) : 0 ≤ mix c p m := Int.emod_nonneg _ (by omega)
theorem mix_lt {c p m : Int} (h : 0 < m) : mix c p m < m := Int.emod_lt_of_pos _ h
theorem mix_ok {n : Nat} (hn : 1 ≤ n) {c p m : Int} (hp : 0 < p) (hp' : p < 100000) (hm : 0 < m) : callD U n 4 [.int c, .int p, .int m] = .ok (.int (mix c p m)) := by
  obtain ⟨n, rfl, hn⟩ := lev hn
  have h1 : 0 ≤ c * 48271 % p := Int.emod_nonneg _ (by omega)
  have h2 : c * 48271 % p < p := Int.emod_lt_of_pos _ hp
  rw [run_law_mix]
  simp (disch := (first | assumption | omega | (simp only [LEN] <;> omega) | decide)) only [b_law_mix, EV0, EV1, EV2, EV3, EV4, List.getElem?_cons_zero, List.getElem?_cons_succ, List.set_cons_zero, List.set_cons_succ, Res.ofO_some, bop, cop, bfn, mtd, wipeR, Tg.slots, Nat.zero_add, Nat.add_zero, eq_self, decide_true, decide_false, ite_true, ite_false]
  rfl
theorem cell_ok {n : Nat} (hn : 1 ≤ n) (ns : List Int) {k : Int} (h0 : 0 ≤ k) : callD U n 3 [scrD ns, .int k] = .ok (.int (cellAt ns k)) := by
  obtain ⟨n, rfl, hn⟩ := lev hn
  rw [run_law_cell]
  by_cases h : k < ns.length
  · have e : ixD (scrD ns) (.int k) = some (.int (cellAt ns k)) := by
      show L2.atI (ns.map PyData.int) k = _
      have : k.toNat < ns.length := by omega
      rw [atI_nat' _ _ h0, List.getElem?_map]
      unfold cellAt
      rw [if_pos h]
      simp [List.getD_eq_getElem?_getD, this]
    simp (disch := (first | assumption | omega | (simp only [LEN] <;> omega) | decide)) only [b_law_cell, EV0, EV1, EV2, EV3, EV4, List.getElem?_cons_zero, List.getElem?_cons_succ, List.set_cons_zero, List.set_cons_succ, Res.ofO_some, bop, cop, bfn, mtd, wipeR, Tg.slots, Nat.zero_add, Nat.add_zero, eq_self, decide_true, decide_false, ite_true, ite_false, List.length_map, h, decide_true, e]
  · have e : cellAt ns k = 0 := if_neg h
    simp (disch := (first | assumption | omega | (simp only [LEN] <;> omega) | decide)) only [b_law_cell, EV0, EV1, EV2, EV3, EV4, List.getElem?_cons_zero, List.getElem?_cons_succ, List.set_cons_zero, List.set_cons_succ, Res.ofO_some, bop, cop, bfn, mtd, wipeR, Tg.slots, Nat.zero_add, Nat.add_zero, eq_self, decide_true, decide_false, ite_true, ite_false, List.length_map, h, decide_false, e]
/-! ### rows -/
def rowL (c m w : Int) : List Int := (List.range (1 + 2 * mix c 9973 m).toNat).map fun (i : Nat) => 1 + mix (c + 7 * (i : Int)) 9967 w
theorem rowL_len (c m w : Int) : (rowL c m w).length = (1 + 2 * mix c 9973 m).toNat := by unfold rowL; rw [List.length_map, List.length_range]
theorem rowL_mem {c m w : Int} (hw : 0 < w) {x : Int} (hx : x ∈ rowL c m w) : 1 ≤ x ∧ x ≤ w := by
  obtain ⟨i, _, rfl⟩ := List.mem_map.mp hx
  have h3 := mix_nn (c := c + 7 * (i : Int)) (p := 9967) hw
  have h4 := mix_lt (c := c + 7 * (i : Int)) (p := 9967) hw
  omega
theorem row_ok {n : Nat} (hn : 2 ≤ n) {c q w : Int} (h1 : 0 < q) (h2 : q ≤ 1000) (hw : 0 < w) : callD U n 5 [.int c, .int q, .int w] = .ok (tI (rowL c q w)) := by
  obtain ⟨n, rfl, hn⟩ := lev hn
  have g1 := mix_nn (c := c) (p := 9973) h1
  have g2 := mix_lt (c := c) (p := 9973) h1
  rw [run_law_row]
  simp (disch := (first | assumption | omega | (simp only [LEN] <;> omega) | decide)) only [b_law_row, EV0, EV1, EV2, EV3, EV4, List.getElem?_cons_zero, List.getElem?_cons_succ, List.set_cons_zero, List.set_cons_succ, Res.ofO_some, bop, cop, bfn, mtd, wipeR, Tg.slots, Nat.zero_add, Nat.add_zero, eq_self, decide_true, decide_false, ite_true, ite_false, mix_ok]
  rw [lc_m PyData.int (fun (i : Nat) => 1 + mix (c + 7 * (i : Int)) 9967 w)]
  · simp (disch := (first | assumption | omega | (simp only [LEN] <;> omega) | decide)) only [EV0, EV1, EV2, EV3, EV4, List.getElem?_cons_zero, List.getElem?_cons_succ, List.set_cons_zero, List.set_cons_succ, Res.ofO_some, bop, cop, bfn, mtd, wipeR, Tg.slots, Nat.zero_add, Nat.add_zero, eq_self, decide_true, decide_false, ite_true, ite_false]
    rfl
  · intro i hi
    have := List.mem_range.mp hi
    simp (disch := (first | assumption | omega | (simp only [LEN] <;> omega) | decide)) only [EV0, EV1, EV2, EV3, EV4, List.getElem?_cons_zero, List.getElem?_cons_succ, List.set_cons_zero, List.set_cons_succ, Res.ofO_some, bop, cop, bfn, mtd, wipeR, Tg.slots, Nat.zero_add, Nat.add_zero, eq_self, decide_true, decide_false, ite_true, ite_false, mix_ok]
/-! ### spots -/
def sp1 (p : Int × Nat) : List Nat := List.replicate p.1.toNat (if p.2 % 2 = 0 then 35 else 46)
def spotZ (q : List (Int × Nat)) : List Nat := (q.map sp1).flatten
def spots (l : List Int) : List Nat := spotZ l.zipIdx
theorem spotZ_snoc (q : List (Int × Nat)) (p : Int × Nat) : spotZ (q ++ [p]) = spotZ q ++ sp1 p := by simp [spotZ]
theorem two_sx (k : Nat) : ixD (sT [35, 46]) (.int ((k : Int) % 2)) = some (sT [if k % 2 = 0 then 35 else 46]) := by
  by_cases q : k % 2 = 0
  · rw [if_pos q, show (k : Int) % 2 = 0 by omega]; rfl
  · rw [if_neg q, show (k : Int) % 2 = 1 by omega]; rfl
theorem two_tx (k : Nat) : ixD (.tuple [sT [35], sT [46]]) (.int ((k : Int) % 2)) = some (sT [if k % 2 = 0 then 35 else 46]) := by
  by_cases q : k % 2 = 0
  · rw [if_pos q, show (k : Int) % 2 = 0 by omega]; rfl
  · rw [if_neg q, show (k : Int) % 2 = 1 by omega]; rfl
theorem spotZ_len {q : List (Int × Nat)} {b : Nat} (h : ∀ p ∈ q, p.1 ≤ b) : (spotZ q).length ≤ b * q.length := by
  induction q with
  | nil => simp [spotZ]
  | cons p q ih =>
    have h1 := h p List.mem_cons_self
    have h2 := ih fun p hp => h p (List.mem_cons_of_mem _ hp)
    unfold spotZ at h2 ⊢
    rw [List.map_cons, List.flatten_cons, List.length_append, List.length_cons, Nat.mul_succ]
    unfold sp1
    rw [List.length_replicate]
    unfold sp1 at h2
    omega
theorem zip_mem {l : List Int} {P : Int → Prop} (h : ∀ x ∈ l, P x) : ∀ p ∈ l.zipIdx, P p.1 := fun p hp => h p.1 (List.fst_mem_of_mem_zipIdx hp)
theorem lspots_ok {n : Nat} (hn : 1 ≤ n) {l : List Int} (hl : l.length ≤ 900) (h9 : ∀ x ∈ l, 0 ≤ x ∧ x ≤ 1000) : callD U n 6 [tI l] = .ok (sT (spots l)) := by
  obtain ⟨n, rfl, hn⟩ := lev hn
  rw [run_law_spots]
  simp (disch := (first | assumption | omega | (simp only [LEN] <;> omega) | decide)) only [b_law_spots, EV0, EV1, EV2, EV3, EV4, List.getElem?_cons_zero, List.getElem?_cons_succ, List.set_cons_zero, List.set_cons_succ, Res.ofO_some, bop, cop, bfn, mtd, wipeR, Tg.slots, Nat.zero_add, Nat.add_zero, eq_self, decide_true, decide_false, ite_true, ite_false]
  refine seq_fin (for_pre (fun pre ρ => ∃ a b, ρ = [.val (tI l), .val (sT (spotZ pre)), a, b]) l.zipIdx ⟨_, _, rfl⟩ ?_) ?_
  · rintro pre ⟨w, k⟩ post e ρ ⟨a, b, rfl⟩
    have hz := zip_mem h9
    rw [e] at hz
    have h1 : 0 ≤ w ∧ w ≤ 1000 := hz (w, k) (by simp)
    have h2 := spotZ_len (q := pre) (b := 1000) fun p hp => (hz p (by simp [hp])).2
    have h3 : pre.length < 900 := by
      have := congrArg List.length e
      rw [List.length_zipIdx, List.length_append, List.length_cons] at this
      omega
    have h4 : (sp1 (w, k)).length ≤ 1000 := by unfold sp1; rw [List.length_replicate]; omega
    simp (disch := (first | assumption | omega | (simp only [LEN] <;> omega) | decide)) only [B_law_spots_1, EV0, EV1, EV2, EV3, EV4, List.getElem?_cons_zero, List.getElem?_cons_succ, List.set_cons_zero, List.set_cons_succ, Res.ofO_some, bop, cop, bfn, mtd, wipeR, Tg.slots, Nat.zero_add, Nat.add_zero, eq_self, decide_true, decide_false, ite_true, ite_false, two_tx, rep_one]
    exact ⟨_, _, by rw [spotZ_snoc]; rfl⟩
  · rintro ρ ⟨a, b, rfl⟩
    simp (disch := (first | assumption | omega | (simp only [LEN] <;> omega) | decide)) only [EV0, EV1, EV2, EV3, EV4, List.getElem?_cons_zero, List.getElem?_cons_succ, List.set_cons_zero, List.set_cons_succ, Res.ofO_some, bop, cop, bfn, mtd, wipeR, Tg.slots, Nat.zero_add, Nat.add_zero, eq_self, decide_true, decide_false, ite_true, ite_false]
    rfl
theorem spots_len {l : List Int} (hl : l.length ≤ 900) (h9 : ∀ x ∈ l, 0 ≤ x ∧ x ≤ 1000) : (spots l).length ≤ 900000 := by
  have h2 := spotZ_len (q := l.zipIdx) (b := 1000) fun p hp => (zip_mem h9 p hp).2
  rw [List.length_zipIdx] at h2
  unfold spots
  omega
theorem spots_ok {n : Nat} (hn : 1 ≤ n) {l : List Int} (hl : l.length ≤ 900) (h9 : ∀ x ∈ l, 0 ≤ x ∧ x ≤ 1000) : callD U n 12 [tI l] = .ok (sT (spots l)) := by
  obtain ⟨n, rfl, hn⟩ := lev hn
  have h2 := spots_len hl h9
  unfold spots spotZ at h2
  rw [run_spots_of]
  simp (disch := (first | assumption | omega | (simp only [LEN] <;> omega) | decide)) only [b_spots_of, EV0, EV1, EV2, EV3, EV4, List.getElem?_cons_zero, List.getElem?_cons_succ, List.set_cons_zero, List.set_cons_succ, Res.ofO_some, bop, cop, bfn, mtd, wipeR, Tg.slots, Nat.zero_add, Nat.add_zero, eq_self, decide_true, decide_false, ite_true, ite_false]
  rw [lc_m sT sp1]
  · simp (disch := (first | assumption | omega | (simp only [LEN] <;> omega) | decide)) only [EV0, EV1, EV2, EV3, EV4, List.getElem?_cons_zero, List.getElem?_cons_succ, List.set_cons_zero, List.set_cons_succ, Res.ofO_some, bop, cop, bfn, mtd, wipeR, Tg.slots, Nat.zero_add, Nat.add_zero, eq_self, decide_true, decide_false, ite_true, ite_false]
    rfl
  · rintro ⟨w, k⟩ hp
    have h1 := zip_mem h9 _ hp
    dsimp only at h1
    simp (disch := (first | assumption | omega | (simp only [LEN] <;> omega) | decide)) only [EV0, EV1, EV2, EV3, EV4, List.getElem?_cons_zero, List.getElem?_cons_succ, List.set_cons_zero, List.set_cons_succ, Res.ofO_some, bop, cop, bfn, mtd, wipeR, Tg.slots, Nat.zero_add, Nat.add_zero, eq_self, decide_true, decide_false, ite_true, ite_false, two_sx, rep_one]
    rfl
theorem total_ok {n : Nat} (hn : 1 ≤ n) (l : List Int) : callD U n 11 [tI l] = .ok (.int l.sum) := by
  obtain ⟨n, rfl, hn⟩ := lev hn
  rw [run_total]
  simp (disch := (first | assumption | omega | (simp only [LEN] <;> omega) | decide)) only [b_total, EV0, EV1, EV2, EV3, EV4, List.getElem?_cons_zero, List.getElem?_cons_succ, List.set_cons_zero, List.set_cons_succ, Res.ofO_some, bop, cop, bfn, mtd, wipeR, Tg.slots, Nat.zero_add, Nat.add_zero, eq_self, decide_true, decide_false, ite_true, ite_false]
theorem turned_ok {n : Nat} (hn : 1 ≤ n) {α : Type} (f : α → D) (l : List α) : callD U n 16 [tM f l] = .ok (tM f l.reverse) := by
  obtain ⟨n, rfl, hn⟩ := lev hn
  rw [run_turned]
  simp (disch := (first | assumption | omega | (simp only [LEN] <;> omega) | decide)) only [b_turned, EV0, EV1, EV2, EV3, EV4, List.getElem?_cons_zero, List.getElem?_cons_succ, List.set_cons_zero, List.set_cons_succ, Res.ofO_some, bop, cop, bfn, mtd, wipeR, Tg.slots, Nat.zero_add, Nat.add_zero, eq_self, decide_true, decide_false, ite_true, ite_false]
def pic (l : List Int) (r : Int) : List Nat := List.replicate r.toNat 46 ++ spots l ++ List.replicate r.toNat 46
theorem picture_ok {n : Nat} (hn : 2 ≤ n) {l : List Int} {r : Int} (hr : 0 ≤ r) (hr2 : r ≤ 1000) (hl : l.length ≤ 900) (h9 : ∀ x ∈ l, 0 ≤ x ∧ x ≤ 1000) : callD U n 13 [tI l, .int r] = .ok (sT (pic l r)) := by
  obtain ⟨n, rfl, hn⟩ := lev hn
  have h2 := spots_len hl h9
  rw [run_picture_of]
  simp (disch := (first | assumption | omega | (simp only [LEN] <;> omega) | decide)) only [b_picture_of, EV0, EV1, EV2, EV3, EV4, List.getElem?_cons_zero, List.getElem?_cons_succ, List.set_cons_zero, List.set_cons_succ, Res.ofO_some, bop, cop, bfn, mtd, wipeR, Tg.slots, Nat.zero_add, Nat.add_zero, eq_self, decide_true, decide_false, ite_true, ite_false, spots_ok, rep_one]
  rfl
theorem bars_ok {n : Nat} (hn : 1 ≤ n) (l : List Int) : callD U n 18 [tI l] = .ok (tI (evens l)) := by
  obtain ⟨n, rfl, hn⟩ := lev hn
  rw [run_bars]
  simp (disch := (first | assumption | omega | (simp only [LEN] <;> omega) | decide)) only [b_bars, EV0, EV1, EV2, EV3, EV4, List.getElem?_cons_zero, List.getElem?_cons_succ, List.set_cons_zero, List.set_cons_succ, Res.ofO_some, bop, cop, bfn, mtd, wipeR, Tg.slots, Nat.zero_add, Nat.add_zero, eq_self, decide_true, decide_false, ite_true, ite_false, cut_lo]
  rfl
theorem gaps_ok {n : Nat} (hn : 1 ≤ n) (l : List Int) : callD U n 19 [tI l] = .ok (tI (evens (l.drop 1))) := by
  obtain ⟨n, rfl, hn⟩ := lev hn
  rw [run_gaps]
  simp (disch := (first | assumption | omega | (simp only [LEN] <;> omega) | decide)) only [b_gaps, EV0, EV1, EV2, EV3, EV4, List.getElem?_cons_zero, List.getElem?_cons_succ, List.set_cons_zero, List.set_cons_succ, Res.ofO_some, bop, cop, bfn, mtd, wipeR, Tg.slots, Nat.zero_add, Nat.add_zero, eq_self, decide_true, decide_false, ite_true, ite_false, cut_lo]
  rfl
theorem wider_ok {n : Nat} (hn : 1 ≤ n) (l : List Int) {t : Int} (h0 : -1000 ≤ t) (h1 : t ≤ 1000) : callD U n 17 [tI l, .int t] = .ok (tI (l.map (· * t))) := by
  obtain ⟨n, rfl, hn⟩ := lev hn
  rw [run_wider]
  simp (disch := (first | assumption | omega | (simp only [LEN] <;> omega) | decide)) only [b_wider, EV0, EV1, EV2, EV3, EV4, List.getElem?_cons_zero, List.getElem?_cons_succ, List.set_cons_zero, List.set_cons_succ, Res.ofO_some, bop, cop, bfn, mtd, wipeR, Tg.slots, Nat.zero_add, Nat.add_zero, eq_self, decide_true, decide_false, ite_true, ite_false]
  rw [lc_m PyData.int (· * t)]
  · simp (disch := (first | assumption | omega | (simp only [LEN] <;> omega) | decide)) only [EV0, EV1, EV2, EV3, EV4, List.getElem?_cons_zero, List.getElem?_cons_succ, List.set_cons_zero, List.set_cons_succ, Res.ofO_some, bop, cop, bfn, mtd, wipeR, Tg.slots, Nat.zero_add, Nat.add_zero, eq_self, decide_true, decide_false, ite_true, ite_false]
  · intro w hw
    simp (disch := (first | assumption | omega | (simp only [LEN] <;> omega) | decide)) only [EV0, EV1, EV2, EV3, EV4, List.getElem?_cons_zero, List.getElem?_cons_succ, List.set_cons_zero, List.set_cons_succ, Res.ofO_some, bop, cop, bfn, mtd, wipeR, Tg.slots, Nat.zero_add, Nat.add_zero, eq_self, decide_true, decide_false, ite_true, ite_false]
/-! ### runs -/
def incr (a : List Int) : List Int := a.set (a.length - 1) (a.getD (a.length - 1) 0 + 1)
def rstep (s : List Int × Option Nat) (c : Nat) : List Int × Option Nat := (if s.2 = some c then incr s.1 else s.1 ++ [1], some c)
def runsS (l : List Nat) : List Int × Option Nat := l.foldl rstep ([], none)
def runs (l : List Nat) : List Int := (runsS l).1
theorem runsS_snoc (l : List Nat) (c : Nat) : runsS (l ++ [c]) = rstep (runsS l) c := by unfold runsS; rw [List.foldl_append]; rfl
theorem runsS_last (l : List Nat) : (runsS l).2 = l.getLast? := by
  rcases List.eq_nil_or_concat l with rfl | ⟨r, c, rfl⟩
  · rfl
  · rw [List.concat_eq_append, runsS_snoc, List.getLast?_append]; rfl
theorem runs_snoc (l : List Nat) (c : Nat) : runs (l ++ [c]) = if l.getLast? = some c then incr (runs l) else runs l ++ [1] := by
  unfold runs
  rw [runsS_snoc, rstep, runsS_last]
theorem incr_len (a : List Int) : (incr a).length = a.length := by unfold incr; rw [List.length_set]
theorem runs_len (l : List Nat) : (runs l).length ≤ l.length ∧ (l ≠ [] → runs l ≠ []) := by
  have key : ∀ (n : Nat) (l : List Nat), l.length = n → (runs l).length ≤ l.length ∧ (l ≠ [] → runs l ≠ []) := by
    intro n
    induction n with
    | zero =>
      intro l h
      have : l = [] := List.eq_nil_of_length_eq_zero h
      subst this
      exact ⟨Nat.le_refl _, fun z => absurd rfl z⟩
    | succ n ih =>
      intro l h
      rcases List.eq_nil_or_concat l with rfl | ⟨r, c, rfl⟩
      · cases h
      · rw [List.concat_eq_append] at h ⊢
        rw [List.length_append, List.length_cons, List.length_nil] at h ⊢
        obtain ⟨h1, h2⟩ := ih r (by omega)
        rw [runs_snoc]
        split
        · rename_i q
          have hr : r ≠ [] := fun z => by subst z; cases q
          refine ⟨by rw [incr_len]; omega, fun _ z => h2 hr ?_⟩
          have := congrArg List.length z
          rw [incr_len] at this
          exact List.eq_nil_of_length_eq_zero this
        · exact ⟨by rw [List.length_append, List.length_cons, List.length_nil]; omega, fun _ z => by simp at z⟩
  exact key l.length l rfl
theorem last_lM {α : Type} {f : α → D} {a : List α} {x : α} (h : a[a.length - 1]? = some x) : ixD (.list (a.map f)) (.int (-1)) = some (f x) := by
  have hl : 0 < a.length := by have := (List.getElem?_eq_some_iff.mp h).1; omega
  show L2.atI (a.map f) (-((1 : Nat) : Int)) = _
  rw [atI_neg _ 1 (by omega) (by rw [List.length_map]; omega), List.length_map, List.getElem?_map, h]
  rfl
theorem seti_last {α : Type} {f : α → D} (ρ : List Sl) (i : Nat) (a : List α) (x : α) (h : a ≠ []) : kSt ρ (setiV ρ i (some (.own (a.map f))) (.ok (.int (-1)))) (.ok (f x)) = .nx (ρ.set i (.own ((a.set (a.length - 1) x).map f))) := by
  have hl : 0 < a.length := List.length_pos_iff.mpr h
  rw [kSt_seti (n := a.length - 1)]
  · rw [List.map_set]
  · unfold L2.ixN
    rw [if_neg (by decide), if_pos (by rw [List.length_map]; omega), List.length_map]
    congr 1
    omega
theorem pre_take {l pre : List Nat} {c k : Nat} {post : List (Nat × Nat)} {q : List (Nat × Nat)} (e : l.zipIdx = q ++ (c, k) :: post) : k = q.length ∧ q.map Prod.fst = l.take k ∧ l[k]? = some c ∧ q = (l.take k).zipIdx := by
  have h0 : l.zipIdx[q.length]? = some (c, k) := by rw [e, List.getElem?_append_right (Nat.le_refl _), Nat.sub_self]; rfl
  rw [List.getElem?_zipIdx] at h0
  cases hc : l[q.length]? with
  | none => rw [hc] at h0; cases h0
  | some d =>
    rw [hc] at h0
    simp at h0
    obtain ⟨rfl, rfl⟩ := h0
    have e1 : l.zipIdx.take q.length = q := by rw [e, List.take_left']; rfl
    have e2 : q = (l.take q.length).zipIdx := by
      rw [← e1]
      rw [List.length_take]
      have hq : q.length ≤ l.zipIdx.length := by rw [e, List.length_append]; omega
      rw [Nat.min_eq_left hq]
      apply List.ext_getElem?
      intro i
      rw [List.getElem?_take, List.getElem?_zipIdx, List.getElem?_zipIdx, List.getElem?_take]
      split <;> rfl
    refine ⟨rfl, ?_, hc, e2⟩
    conv => lhs; rw [e2]
    exact List.zipIdx_map_fst 0 _
theorem app_one (a : List Int) : a.map PyData.int ++ [.int 1] = (a ++ [1]).map PyData.int := by simp
theorem runs_ok {n : Nat} (hn : 1 ≤ n) {l : List Nat} (hl : l.length ≤ 900000) : callD U n 14 [sT l] = .ok (tI (runs l)) := by
  obtain ⟨n, rfl, hn⟩ := lev hn
  rw [run_runs]
  simp (disch := (first | assumption | omega | (simp only [LEN] <;> omega) | decide)) only [b_runs, EV0, EV1, EV2, EV3, EV4, List.getElem?_cons_zero, List.getElem?_cons_succ, List.set_cons_zero, List.set_cons_succ, Res.ofO_some, bop, cop, bfn, mtd, wipeR, Tg.slots, Nat.zero_add, Nat.add_zero, eq_self, decide_true, decide_false, ite_true, ite_false]
  refine seq_fin (for_pre (fun pre ρ => ∃ a b, ρ = [.val (sT l), .own ((runs (pre.map Prod.fst)).map .int), a, b]) l.zipIdx ⟨_, _, rfl⟩ ?_) ?_
  · rintro pre ⟨c, k⟩ post e ρ ⟨a, b, rfl⟩
    obtain ⟨h1, h2, h3, h4⟩ := pre_take (pre := []) e
    have hk : k < l.length := (List.getElem?_eq_some_iff.mp h3).1
    have hr := runs_len (pre.map Prod.fst)
    rw [List.length_map] at hr
    have hsn := runs_snoc (pre.map Prod.fst) c
    have hm : (pre ++ [(c, k)]).map Prod.fst = pre.map Prod.fst ++ [c] := by simp
    by_cases h0 : 0 < k
    · have e1 : l[((k : Int) - 1).toNat]? = some (l.getD (k - 1) 0) := by
        rw [show ((k : Int) - 1).toNat = k - 1 by omega, List.getD_eq_getElem?_getD, List.getElem?_eq_getElem (by omega)]; rfl
      have hlast : (pre.map Prod.fst).getLast? = some (l.getD (k - 1) 0) := by
        rw [h2, List.getLast?_eq_getElem?, List.length_take, Nat.min_eq_left (by omega), List.getElem?_take, if_pos (by omega), List.getD_eq_getElem?_getD, List.getElem?_eq_getElem (by omega)]
        rfl
      have hne : runs (pre.map Prod.fst) ≠ [] := hr.2 fun z => by rw [z] at hlast; cases hlast
      have hlst : (runs (pre.map Prod.fst))[(runs (pre.map Prod.fst)).length - 1]? = some ((runs (pre.map Prod.fst)).getD ((runs (pre.map Prod.fst)).length - 1) 0) := by
        have := List.length_pos_iff.mpr hne
        rw [List.getD_eq_getElem?_getD, List.getElem?_eq_getElem (by omega)]; rfl
      have hd0 : (0 : Int) < (k : Int) := by omega
      rw [hlast] at hsn
      by_cases hc : l.getD (k - 1) 0 = c
      · rw [if_pos (by rw [hc])] at hsn
        simp (disch := (first | assumption | omega | (simp only [LEN] <;> omega) | decide)) only [B_runs_1, EV0, EV1, EV2, EV3, EV4, List.getElem?_cons_zero, List.getElem?_cons_succ, List.set_cons_zero, List.set_cons_succ, Res.ofO_some, bop, cop, bfn, mtd, wipeR, Tg.slots, Nat.zero_add, Nat.add_zero, eq_self, decide_true, decide_false, ite_true, ite_false, hd0, decide_true, ix_sT (by omega) e1, hc, last_lM hlst, seti_last _ _ _ _ hne]
        exact ⟨_, _, by rw [hm, hsn]; rfl⟩
      · rw [if_neg (fun z => hc (Option.some.inj z))] at hsn
        have hg : ((runs (pre.map Prod.fst)).map PyData.int).length + 1 ≤ 1000000 := by rw [List.length_map]; omega
        simp (disch := (first | assumption | omega | (simp only [LEN] <;> omega) | decide)) only [B_runs_1, EV0, EV1, EV2, EV3, EV4, List.getElem?_cons_zero, List.getElem?_cons_succ, List.set_cons_zero, List.set_cons_succ, Res.ofO_some, bop, cop, bfn, mtd, wipeR, Tg.slots, Nat.zero_add, Nat.add_zero, eq_self, decide_true, decide_false, ite_true, ite_false, hd0, decide_true, ix_sT (by omega) e1, hc, decide_false]
        exact ⟨_, _, by rw [hm, hsn, app_one]⟩
    · have hk0 : k = 0 := by omega
      subst hk0
      have hp : pre = [] := List.eq_nil_of_length_eq_zero h1.symm
      subst hp
      have hg : ((runs (List.map Prod.fst ([] : List (Nat × Nat)))).map PyData.int).length + 1 ≤ 1000000 := by simp [runs, runsS]
      have hd0 : ¬ (0 : Int) < ((0 : Nat) : Int) := by omega
      simp (disch := (first | assumption | omega | (simp only [LEN] <;> omega) | decide)) only [B_runs_1, EV0, EV1, EV2, EV3, EV4, List.getElem?_cons_zero, List.getElem?_cons_succ, List.set_cons_zero, List.set_cons_succ, Res.ofO_some, bop, cop, bfn, mtd, wipeR, Tg.slots, Nat.zero_add, Nat.add_zero, eq_self, decide_true, decide_false, ite_true, ite_false, hd0, decide_false]
      exact ⟨_, _, rfl⟩
  · rintro ρ ⟨a, b, rfl⟩
    simp (disch := (first | assumption | omega | (simp only [LEN] <;> omega) | decide)) only [EV0, EV1, EV2, EV3, EV4, List.getElem?_cons_zero, List.getElem?_cons_succ, List.set_cons_zero, List.set_cons_succ, Res.ofO_some, bop, cop, bfn, mtd, wipeR, Tg.slots, Nat.zero_add, Nat.add_zero, eq_self, decide_true, decide_false, ite_true, ite_false, List.zipIdx_map_fst]
    rfl
end Bg

set_option Elab.async false
set_option linter.all false
set_option maxRecDepth 100000
set_option maxHeartbeats 4000000
/-! Rows and their spots tell one another. -/
namespace Bg
open PySem PySem.Spec PyProof.Rows L2
/-! ### runs and spots, plainly -/
theorem incr_snoc (a : List Int) (x : Int) : incr (a ++ [x]) = a ++ [x + 1] := by
  unfold incr
  rw [List.length_append, List.length_cons, List.length_nil, Nat.add_sub_cancel]
  have e : (a ++ [x]).getD a.length 0 = x := by simp [List.getD_eq_getElem?_getD]
  rw [e, List.set_append_right _ _ (Nat.le_refl _), Nat.sub_self]
  rfl
theorem runs_rep (x : List Nat) (c : Nat) (h : x.getLast? ≠ some c) : ∀ k : Nat, runs (x ++ List.replicate (k + 1) c) = runs x ++ [((k + 1 : Nat) : Int)]
  | 0 => by
    rw [List.replicate_one, runs_snoc, if_neg h]
    rfl
  | k + 1 => by
    rw [List.replicate_succ', ← List.append_assoc, runs_snoc, runs_rep x c h k, if_pos (by rw [List.replicate_succ', ← List.append_assoc, List.getLast?_append]; rfl), incr_snoc]
    rfl
abbrev col (k : Nat) : Nat := if k % 2 = 0 then 35 else 46
theorem spots_snoc (l : List Int) (w : Int) : spots (l ++ [w]) = spots l ++ List.replicate w.toNat (col l.length) := by
  unfold spots
  rw [List.zipIdx_append, Nat.zero_add]
  exact spotZ_snoc _ _
theorem spots_nil : spots [] = [] := rfl
theorem spots_last (l : List Int) (w : Int) (h : 1 ≤ w) : (spots (l ++ [w])).getLast? = some (col l.length) := by
  rw [spots_snoc]
  obtain ⟨k, hk⟩ : ∃ k, w.toNat = k + 1 := ⟨w.toNat - 1, by omega⟩
  rw [hk, List.replicate_succ', ← List.append_assoc, List.getLast?_append]
  rfl
theorem snoc_ind {α : Type} {P : List α → Prop} (h0 : P []) (hs : ∀ l a, P l → P (l ++ [a])) (l : List α) : P l := by
  have : ∀ (n : Nat) (l : List α), l.length = n → P l := by
    intro n
    induction n with
    | zero => intro l h; rw [List.eq_nil_of_length_eq_zero h]; exact h0
    | succ n ih =>
      intro l h
      rcases List.eq_nil_or_concat l with rfl | ⟨r, c, rfl⟩
      · cases h
      · rw [List.concat_eq_append] at h ⊢
        exact hs r c (ih r (by simpa using h))
  exact this _ l rfl
theorem col_ne (k : Nat) : col k ≠ col (k + 1) := by
  unfold col
  by_cases h : k % 2 = 0
  · rw [if_pos h, if_neg (by omega)]; decide
  · rw [if_neg h, if_pos (by omega)]; decide
theorem runs_spots (l : List Int) : (∀ x ∈ l, 1 ≤ x) → runs (spots l) = l := by
  refine snoc_ind (P := fun l => (∀ x ∈ l, 1 ≤ x) → runs (spots l) = l) (fun _ => rfl) (fun l w ih h => ?_) l
  have ih := ih fun x hx => h x (by simp [hx])
  have hw : 1 ≤ w := h w (by simp)
  obtain ⟨k, hk⟩ : ∃ k, w.toNat = k + 1 := ⟨w.toNat - 1, by omega⟩
  have hl : (spots l).getLast? ≠ some (col l.length) := by
    rcases List.eq_nil_or_concat l with rfl | ⟨r, c, rfl⟩
    · intro z; cases z
    · rw [List.concat_eq_append, spots_last r c (h c (by simp)), List.length_append, List.length_cons, List.length_nil]
      intro z
      exact col_ne r.length (Option.some.inj z)
  rw [spots_snoc, hk, runs_rep _ _ hl, ih]
  congr 2
  omega
theorem spots_app (a b : List Int) : ∀ k, a.length = 2 * k → spots (a ++ b) = spots a ++ spots b := by
  intro k hk
  revert b
  intro b
  refine snoc_ind (P := fun b => spots (a ++ b) = spots a ++ spots b) (by simp [spots_nil]) (fun b w ih => ?_) b
  rw [← List.append_assoc, spots_snoc, ih, spots_snoc, List.append_assoc, List.length_append]
  congr 3
  unfold col
  have : (a.length + b.length) % 2 = b.length % 2 := by omega
  rw [this]
theorem spots_cons2 (x y : Int) (l : List Int) : spots (x :: y :: l) = List.replicate x.toNat 35 ++ (List.replicate y.toNat 46 ++ spots l) := by
  have := spots_app [x, y] l 1 rfl
  rw [List.cons_append, List.cons_append, List.nil_append] at this
  rw [this]
  have e : spots [x, y] = List.replicate x.toNat 35 ++ List.replicate y.toNat 46 := by
    unfold spots spotZ sp1
    simp
  rw [e, List.append_assoc]
theorem spots_one (x : Int) : spots [x] = List.replicate x.toNat 35 := by
  unfold spots spotZ sp1
  simp
theorem spots_size (l : List Int) : (spots l).length = (l.map Int.toNat).sum := by
  refine snoc_ind (P := fun l => (spots l).length = (l.map Int.toNat).sum) rfl (fun l w ih => ?_) l
  rw [spots_snoc, List.length_append, ih, List.length_replicate, List.map_append, List.sum_append]
  simp
theorem sum_nat {l : List Int} (h : ∀ x ∈ l, 0 ≤ x) : l.sum = ((l.map Int.toNat).sum : Nat) := by
  induction l with
  | nil => rfl
  | cons x l ih =>
    have h1 := h x List.mem_cons_self
    have h2 := ih fun x hx => h x (List.mem_cons_of_mem _ hx)
    rw [List.sum_cons, h2, List.map_cons, List.sum_cons]
    omega
theorem spots_sum {l : List Int} (h : ∀ x ∈ l, 0 ≤ x) : ((spots l).length : Int) = l.sum := by rw [spots_size, sum_nat h]
theorem spots_mem (l : List Int) : ∀ c ∈ spots l, c = 35 ∨ c = 46 := by
  refine snoc_ind (P := fun l => ∀ c ∈ spots l, c = 35 ∨ c = 46) (fun c h => by cases h) (fun l w ih c h => ?_) l
  rw [spots_snoc] at h
  rcases List.mem_append.mp h with q | q
  · exact ih c q
  · rw [List.eq_of_mem_replicate q]
    unfold col
    split
    · exact .inl rfl
    · exact .inr rfl
/-- from the other end, an odd number of widths -/
theorem spots_rev (l : List Int) : ∀ k, l.length = 2 * k + 1 → spots l.reverse = (spots l).reverse := by
  have key : ∀ (k : Nat) (l : List Int), l.length = 2 * k + 1 → spots l.reverse = (spots l).reverse := by
    intro k
    induction k with
    | zero =>
      intro l h
      match l, h with
      | [x], _ => rw [List.reverse_singleton, spots_one, List.reverse_replicate]
    | succ k ih =>
      intro l h
      match l, h with
      | x :: y :: l, h =>
        have hl : l.length = 2 * k + 1 := by simp at h; omega
        rw [spots_cons2, List.reverse_cons, List.reverse_cons, spots_snoc, spots_snoc, ih l hl]
        simp only [List.length_append, List.length_reverse, List.length_cons, List.length_nil, List.reverse_append, List.reverse_replicate, hl, List.append_assoc]
        have e1 : col (2 * k + 1) = 46 := by unfold col; rw [if_neg (by omega)]
        have e2 : col (2 * k + 1 + (0 + 1)) = 35 := by unfold col; rw [if_pos (by omega)]
        rw [e1, e2]
  exact fun k => key k l
/-! ### strip -/
theorem dropW_rep (c : Nat) (m : List Nat) (h : m.head? ≠ some c) : ∀ a : Nat, (List.replicate a c ++ m).dropWhile (· == c) = m
  | 0 => by
    cases m with
    | nil => rfl
    | cons x m =>
      have hx : (x == c) = false := by
        refine beq_eq_false_iff_ne.mpr fun z => h (by rw [z]; rfl)
      show List.dropWhile _ (x :: m) = _
      rw [List.dropWhile_cons, hx]
      rfl
  | a + 1 => by
    rw [List.replicate_succ, List.cons_append, List.dropWhile_cons]
    simp only [beq_self_eq_true, if_true]
    exact dropW_rep c m h a
theorem strip_mid (c a b : Nat) (m : List Nat) (h : m.head? ≠ some c) (h2 : m.getLast? ≠ some c) : stripL c (List.replicate a c ++ m ++ List.replicate b c) = m := by
  unfold stripL
  cases m with
  | nil =>
    rw [List.append_nil, List.replicate_append_replicate]
    have := dropW_rep c [] (by simp) (a + b)
    rw [List.append_nil] at this
    rw [this]
    rfl
  | cons x m =>
    rw [List.append_assoc, dropW_rep c ((x :: m) ++ List.replicate b c) (by simpa using h), List.reverse_append, List.reverse_replicate, dropW_rep c _ (by rw [List.head?_reverse]; exact h2), List.reverse_reverse]
theorem spots_head (x : Int) (l : List Int) (h : 1 ≤ x) : (spots (x :: l)).head? = some 35 := by
  obtain ⟨k, hk⟩ : ∃ k, x.toNat = k + 1 := ⟨x.toNat - 1, by omega⟩
  cases l with
  | nil => rw [spots_one, hk]; rfl
  | cons y l => rw [spots_cons2, hk]; rfl
structure Odd (l : List Int) : Prop where
  odd : l.length % 2 = 1
  pos : ∀ x ∈ l, 1 ≤ x
theorem Odd.head {l : List Int} (o : Odd l) : (spots l).head? = some 35 := by
  cases l with
  | nil => have := o.odd; simp at this
  | cons x l => exact spots_head x l (o.pos x List.mem_cons_self)
theorem Odd.last {l : List Int} (o : Odd l) : (spots l).getLast? = some 35 := by
  rcases List.eq_nil_or_concat l with rfl | ⟨r, c, rfl⟩
  · have := o.odd; simp at this
  · rw [List.concat_eq_append] at o ⊢
    have h1 := o.odd
    rw [List.length_append, List.length_cons, List.length_nil] at h1
    rw [spots_last r c (o.pos c (by simp))]
    unfold col
    rw [if_pos (by omega)]
theorem Odd.rev {l : List Int} (o : Odd l) : Odd l.reverse := ⟨by rw [List.length_reverse]; exact o.odd, fun x hx => o.pos x (List.mem_reverse.mp hx)⟩
theorem Odd.spots_rev {l : List Int} (o : Odd l) : spots l.reverse = (spots l).reverse := Bg.spots_rev l (l.length / 2) (by have := o.odd; omega)
theorem Odd.strip {l : List Int} (o : Odd l) (a b : Nat) : stripL 46 (List.replicate a 46 ++ spots l ++ List.replicate b 46) = spots l := strip_mid 46 a b _ (by rw [o.head]; decide) (by rw [o.last]; decide)
theorem Odd.ne {l : List Int} (o : Odd l) : spots l ≠ [] := fun z => by have := o.head; rw [z] at this; cases this
/-! ### row_of -/
theorem rowof_ok {n : Nat} (hn : 2 ≤ n) {p m : List Nat} (hp : p.length ≤ 900000) (hs : stripL 46 p = m) (hm : m.length ≤ 900000) (h0 : m ≠ []) : callD U n 15 [sT p] = .ok (tI (runs m)) := by
  obtain ⟨n, rfl, hn⟩ := lev hn
  rw [run_row_of]
  simp (disch := (first | assumption | omega | (simp only [LEN] <;> omega) | decide)) only [b_row_of, EV0, EV1, EV2, EV3, EV4, List.getElem?_cons_zero, List.getElem?_cons_succ, List.set_cons_zero, List.set_cons_succ, Res.ofO_some, bop, cop, bfn, mtd, wipeR, Tg.slots, Nat.zero_add, Nat.add_zero, eq_self, decide_true, decide_false, ite_true, ite_false, strip_c, hs, h0, decide_false, runs_ok]
theorem rowof_no {n : Nat} (hn : 1 ≤ n) {p : List Nat} (hp : p.length ≤ 900000) (hs : stripL 46 p = []) : callD U n 15 [sT p] = .ex 1 := by
  obtain ⟨n, rfl, hn⟩ := lev hn
  rw [run_row_of]
  simp (disch := (first | assumption | omega | (simp only [LEN] <;> omega) | decide)) only [b_row_of, EV0, EV1, EV2, EV3, EV4, List.getElem?_cons_zero, List.getElem?_cons_succ, List.set_cons_zero, List.set_cons_succ, Res.ofO_some, bop, cop, bfn, mtd, wipeR, Tg.slots, Nat.zero_add, Nat.add_zero, eq_self, decide_true, decide_false, ite_true, ite_false, strip_c, hs, decide_true]
theorem strip_dots (k : Nat) : stripL 46 (List.replicate k 46) = [] := by
  have := strip_mid 46 k 0 [] (by simp) (by simp)
  simpa using this
/-! ### law_runs, law_same -/
def lastT : Option Nat → List Nat
  | none => []
  | some c => [c]
theorem last_dec (c : Nat) (o : Option Nat) : ([c] = lastT o) = (o = some c) := by
  cases o with
  | none => simp [lastT]
  | some d => simp [lastT, eq_comm]
theorem lruns_ok {n : Nat} (hn : 1 ≤ n) {l : List Nat} (hl : l.length ≤ 900000) : callD U n 21 [sT l] = .ok (tI (runs l)) := by
  obtain ⟨n, rfl, hn⟩ := lev hn
  rw [run_law_runs]
  simp (disch := (first | assumption | omega | (simp only [LEN] <;> omega) | decide)) only [b_law_runs, EV0, EV1, EV2, EV3, EV4, List.getElem?_cons_zero, List.getElem?_cons_succ, List.set_cons_zero, List.set_cons_succ, Res.ofO_some, bop, cop, bfn, mtd, wipeR, Tg.slots, Nat.zero_add, Nat.add_zero, eq_self, decide_true, decide_false, ite_true, ite_false]
  refine seq_fin (for_pre (fun pre ρ => ∃ a, ρ = [.val (sT l), a, .own ((runs pre).map .int), .val (sT (lastT pre.getLast?))]) l ⟨_, rfl⟩ ?_) ?_
  · rintro pre c post e ρ ⟨a, rfl⟩
    have hr := runs_len pre
    have hsn := runs_snoc pre c
    have hlen : pre.length < l.length := by rw [e, List.length_append, List.length_cons]; omega
    have hl2 : lastT (pre ++ [c]).getLast? = [c] := by rw [List.getLast?_append]; rfl
    by_cases hc : pre.getLast? = some c
    · have hne : runs pre ≠ [] := hr.2 fun z => by rw [z] at hc; cases hc
      have hlst : (runs pre)[(runs pre).length - 1]? = some ((runs pre).getD ((runs pre).length - 1) 0) := by
        have := List.length_pos_iff.mpr hne
        rw [List.getD_eq_getElem?_getD, List.getElem?_eq_getElem (by omega)]; rfl
      rw [if_pos hc] at hsn
      simp (disch := (first | assumption | omega | (simp only [LEN] <;> omega) | decide)) only [B_law_runs_1, EV0, EV1, EV2, EV3, EV4, List.getElem?_cons_zero, List.getElem?_cons_succ, List.set_cons_zero, List.set_cons_succ, Res.ofO_some, bop, cop, bfn, mtd, wipeR, Tg.slots, Nat.zero_add, Nat.add_zero, eq_self, decide_true, decide_false, ite_true, ite_false, last_dec, hc, decide_true, last_lM hlst, seti_last _ _ _ _ hne]
      exact ⟨_, by rw [hl2, hsn]; rfl⟩
    · rw [if_neg hc] at hsn
      have hg : ((runs pre).map PyData.int).length + 1 ≤ 1000000 := by rw [List.length_map]; omega
      simp (disch := (first | assumption | omega | (simp only [LEN] <;> omega) | decide)) only [B_law_runs_1, EV0, EV1, EV2, EV3, EV4, List.getElem?_cons_zero, List.getElem?_cons_succ, List.set_cons_zero, List.set_cons_succ, Res.ofO_some, bop, cop, bfn, mtd, wipeR, Tg.slots, Nat.zero_add, Nat.add_zero, eq_self, decide_true, decide_false, ite_true, ite_false, last_dec, hc, decide_false]
      exact ⟨_, by rw [hl2, hsn, app_one]⟩
  · rintro ρ ⟨a, rfl⟩
    simp (disch := (first | assumption | omega | (simp only [LEN] <;> omega) | decide)) only [EV0, EV1, EV2, EV3, EV4, List.getElem?_cons_zero, List.getElem?_cons_succ, List.set_cons_zero, List.set_cons_succ, Res.ofO_some, bop, cop, bfn, mtd, wipeR, Tg.slots, Nat.zero_add, Nat.add_zero, eq_self, decide_true, decide_false, ite_true, ite_false]
    rfl
mutual
def simpD : D → Bool
  | .list _ => false
  | .dict _ => false
  | .tuple ds => simpDs ds
  | .none => true
  | .bool _ => true
  | .int _ => true
  | .str _ => true
def simpDs : List D → Bool
  | [] => true
  | d :: ds => simpD d && simpDs ds
end
theorem simpDs_iff : ∀ ds : List D, simpDs ds = true ↔ ∀ d ∈ ds, simpD d = true
  | [] => by simp [simpDs]
  | d :: ds => by simp [simpDs, simpDs_iff ds]
theorem depthAll_le : ∀ (ds : List D) (d : D), d ∈ ds → d.depth ≤ PyData.depthAll ds
  | [], _, h => by cases h
  | e :: ds, d, h => by
    simp only [PyData.depthAll]
    rcases List.mem_cons.mp h with rfl | h
    · omega
    · have := depthAll_le ds d h
      omega
theorem zipD_self (ds : List D) : zipD ds ds = ds.map fun d => .tuple [d, d] := by
  induction ds with
  | nil => rfl
  | cons d ds ih => simp only [zipD, List.map_cons, ih]
theorem isi_is_i (i : Int) : fIsi [.int i, .tuple [tyD 0, tyD 1]] = some (.bool true) := rfl
theorem isi_is_s (i : Str) : fIsi [.str i, .tuple [tyD 0, tyD 1]] = some (.bool true) := rfl
theorem isi_ss (i : Str) (k : Int) (b : Bool) (h : fIsi [.str ⟨#[]⟩, .dict [(.none, .int k)]] = some (.bool b)) : fIsi [.str i, .dict [(.none, .int k)]] = some (.bool b) := h
theorem isS (i : Str) : cIs (.str i) .none = some (.bool false) := rfl
theorem eqS (a : Str) : cEq (.str a) (.str a) = some (.bool true) := by
  unfold cEq gd
  rw [if_pos (show near2 (.str a) (.str a) from ⟨rfl, rfl, by simp [PyData.depth]⟩)]
  simp [PyData.eqv]
theorem items_t (ds : List D) : itemsOf (.tuple ds) = some ds := rfl
theorem same_ok : ∀ (n : Nat) (d : D), simpD d = true → d.depth + 1 ≤ n → callD U n 20 [d, d] = .ok (.bool true) := by
  intro n
  induction n with
  | zero => intro d hd hn; omega
  | succ n ih =>
    intro d hd hn
    rw [run_law_same]
    cases d with
    | list _ => cases hd
    | dict _ => cases hd
    | none => simp (disch := (first | assumption | omega | (simp only [LEN] <;> omega) | decide)) only [b_law_same, EV0, EV1, EV2, EV3, EV4, List.getElem?_cons_zero, List.getElem?_cons_succ, List.set_cons_zero, List.set_cons_succ, Res.ofO_some, bop, cop, bfn, mtd, wipeR, Tg.slots, Nat.zero_add, Nat.add_zero, eq_self, decide_true, decide_false, ite_true, ite_false]
    | bool b => simp (disch := (first | assumption | omega | (simp only [LEN] <;> omega) | decide)) only [b_law_same, EV0, EV1, EV2, EV3, EV4, List.getElem?_cons_zero, List.getElem?_cons_succ, List.set_cons_zero, List.set_cons_succ, Res.ofO_some, bop, cop, bfn, mtd, wipeR, Tg.slots, Nat.zero_add, Nat.add_zero, eq_self, decide_true, decide_false, ite_true, ite_false, decide_true]
    | int b => simp (disch := (first | assumption | omega | (simp only [LEN] <;> omega) | decide)) only [b_law_same, EV0, EV1, EV2, EV3, EV4, List.getElem?_cons_zero, List.getElem?_cons_succ, List.set_cons_zero, List.set_cons_succ, Res.ofO_some, bop, cop, bfn, mtd, wipeR, Tg.slots, Nat.zero_add, Nat.add_zero, eq_self, decide_true, decide_false, ite_true, ite_false, isi_is_i, decide_true]
    | str b =>
      have a2 := isi_ss b 2 false rfl
      have a3 := isi_ss b 3 false rfl
      simp (disch := (first | assumption | omega | (simp only [LEN] <;> omega) | decide)) only [b_law_same, EV0, EV1, EV2, EV3, EV4, List.getElem?_cons_zero, List.getElem?_cons_succ, List.set_cons_zero, List.set_cons_succ, Res.ofO_some, bop, cop, bfn, mtd, wipeR, Tg.slots, Nat.zero_add, Nat.add_zero, eq_self, decide_true, decide_false, ite_true, ite_false, isS, a2, a3, isi_is_s, eqS]
    | tuple ds =>
      have hs : simpDs ds = true := hd
      have hde : PyData.depthAll ds + 1 + 1 ≤ n + 1 := hn
      simp (disch := (first | assumption | omega | (simp only [LEN] <;> omega) | decide)) only [b_law_same, EV0, EV1, EV2, EV3, EV4, List.getElem?_cons_zero, List.getElem?_cons_succ, List.set_cons_zero, List.set_cons_succ, Res.ofO_some, bop, cop, bfn, mtd, wipeR, Tg.slots, Nat.zero_add, Nat.add_zero, eq_self, decide_true, decide_false, ite_true, ite_false, decide_true, items_t, zipD_self]
      rw [lc_m PyData.bool (fun _ => true)]
      · simp (disch := (first | assumption | omega | (simp only [LEN] <;> omega) | decide)) only [EV0, EV1, EV2, EV3, EV4, List.getElem?_cons_zero, List.getElem?_cons_succ, List.set_cons_zero, List.set_cons_succ, Res.ofO_some, bop, cop, bfn, mtd, wipeR, Tg.slots, Nat.zero_add, Nat.add_zero, eq_self, decide_true, decide_false, ite_true, ite_false]
        simp
      · intro d hd'
        have q := ih d ((simpDs_iff ds).mp hs d hd') (by have := depthAll_le ds d hd'; omega)
        simp (disch := (first | assumption | omega | (simp only [LEN] <;> omega) | decide)) only [EV0, EV1, EV2, EV3, EV4, List.getElem?_cons_zero, List.getElem?_cons_succ, List.set_cons_zero, List.set_cons_succ, Res.ofO_some, bop, cop, bfn, mtd, wipeR, Tg.slots, Nat.zero_add, Nat.add_zero, eq_self, decide_true, decide_false, ite_true, ite_false, q]
theorem simp_tM {α : Type} {f : α → D} (h : ∀ a, simpD (f a) = true) (l : List α) : simpD (tM f l) = true := by
  show simpDs (l.map f) = true
  rw [simpDs_iff]
  intro d hd
  obtain ⟨a, _, rfl⟩ := List.mem_map.mp hd
  exact h a
theorem simp_tI (l : List Int) : simpD (tI l) = true := simp_tM (fun _ => rfl) l
theorem simp_sT (l : List Nat) : simpD (sT l) = true := rfl
theorem dep_tI (l : List Int) : (tI l).depth ≤ 1 := (gd_tM gd_int).dp l
theorem dep_sT (l : List Nat) : (sT l).depth ≤ 0 := gd_sT.dp l
theorem word1 : PyData.str (wordOf 1) = sT [110, 111, 32, 114, 111, 119] := rfl
theorem word2 : PyData.str (wordOf 2) = sT [110, 111, 32, 99, 111, 100, 101] := rfl
theorem dep_tup {ds : List D} {k : Nat} (h : ∀ d ∈ ds, d.depth ≤ k) : (PyData.tuple ds).depth ≤ k + 1 := by
  simp only [PyData.depth]
  have := depthAll_le' ds k h
  omega
theorem simp_tup {ds : List D} (h : ∀ d ∈ ds, simpD d = true) : simpD (.tuple ds) = true := (simpDs_iff ds).mpr h
theorem same_2 {n : Nat} (hn : 5 ≤ n) {a b : D} (ha : simpD a = true) (hb : simpD b = true) (da : a.depth ≤ 3) (db : b.depth ≤ 3) : callD U n 20 [.tuple [a, b], .tuple [a, b]] = .ok (.bool true) :=
  same_ok n _ (simp_tup (by intro d hd; simp at hd; rcases hd with rfl | rfl <;> assumption)) (by have := dep_tup (ds := [a, b]) (k := 3) (by intro d hd; simp at hd; rcases hd with rfl | rfl <;> assumption); omega)
theorem same_3 {n : Nat} (hn : 5 ≤ n) {a b c : D} (ha : simpD a = true) (hb : simpD b = true) (hc : simpD c = true) (da : a.depth ≤ 3) (db : b.depth ≤ 3) (dc : c.depth ≤ 3) : callD U n 20 [.tuple [a, b, c], .tuple [a, b, c]] = .ok (.bool true) :=
  same_ok n _ (simp_tup (by intro d hd; simp at hd; rcases hd with rfl | rfl | rfl <;> assumption)) (by have := dep_tup (ds := [a, b, c]) (k := 3) (by intro d hd; simp at hd; rcases hd with rfl | rfl | rfl <;> assumption); omega)
theorem dI (l : List Int) : (tI l).depth ≤ 3 := Nat.le_trans (dep_tI l) (by omega)
theorem dS (l : List Nat) : (sT l).depth ≤ 3 := Nat.le_trans (dep_sT l) (by omega)
theorem dN (i : Int) : (PyData.int i).depth ≤ 3 := by simp [PyData.depth]
end Bg

set_option Elab.async false
set_option linter.all false
set_option maxRecDepth 100000
set_option maxHeartbeats 4000000
/-! Figures and their checks. -/
namespace Bg
open PySem PySem.Spec PyProof.Rows L2
def figs : List Nat := [48, 49, 50, 51, 52, 53, 54, 55, 56, 57]
theorem C_FIGURES_eq : C_FIGURES = sT figs := rfl
theorem mem_figs {c : Nat} : c ∈ figs ↔ 48 ≤ c ∧ c ≤ 57 := by
  unfold figs
  simp only [List.mem_cons, List.not_mem_nil, or_false]
  omega
theorem figs_get {i : Nat} (h : i < 10) : figs[i]? = some (48 + i) := by
  match i, h with
  | 0, _ => rfl | 1, _ => rfl | 2, _ => rfl | 3, _ => rfl | 4, _ => rfl
  | 5, _ => rfl | 6, _ => rfl | 7, _ => rfl | 8, _ => rfl | 9, _ => rfl
theorem figs_idx {c : Nat} (h : c ∈ figs) : figs.idxOf c = c - 48 := by
  have h := mem_figs.mp h
  obtain ⟨i, hi, rfl⟩ : ∃ i, i < 10 ∧ c = 48 + i := ⟨c - 48, by omega, by omega⟩
  match i, hi with
  | 0, _ => rfl | 1, _ => rfl | 2, _ => rfl | 3, _ => rfl | 4, _ => rfl
  | 5, _ => rfl | 6, _ => rfl | 7, _ => rfl | 8, _ => rfl | 9, _ => rfl
theorem ix_figs {i : Int} (h0 : 0 ≤ i) (h1 : i < 10) : ixD (sT figs) (.int i) = some (sT [48 + i.toNat]) := ix_sT h0 (figs_get (by omega))
theorem index_figs {c : Nat} (h : c ∈ figs) : mIndexS (sT figs) [sT [c]] = some (.int ((c : Int) - 48)) := by
  rw [index_c h, figs_idx h]
  have := mem_figs.mp h
  congr 2
  omega
theorem int_c {c : Nat} (h : c ∈ figs) : fInt [sT [c]] = some (.int ((c : Int) - 48)) := by
  have h := mem_figs.mp h
  obtain ⟨i, hi, rfl⟩ : ∃ i, i < 10 ∧ c = 48 + i := ⟨c - 48, by omega, by omega⟩
  have key : ∀ i < 10, PySem.intText? (T [48 + i]) = some (i : Int) := by decide +kernel
  show (if (T [48 + i]).length ≤ 640 then (PySem.intText? (T [48 + i])).map PyData.int else none) = _
  rw [if_pos (by rw [T_len]; simp), key i hi]
  show some (PyData.int (i : Int)) = _
  congr 2
  omega
def AllF (l : List Nat) : Prop := ∀ c ∈ l, c ∈ figs
instance (l : List Nat) : Decidable (AllF l) := List.decidableBAll (fun c => c ∈ figs) l
theorem AllF.app {a b : List Nat} (ha : AllF a) (hb : AllF b) : AllF (a ++ b) := fun c hc => (List.mem_append.mp hc).elim (ha c) (hb c)
theorem AllF.rev {a : List Nat} (ha : AllF a) : AllF a.reverse := fun c hc => ha c (List.mem_reverse.mp hc)
theorem AllF.take {a : List Nat} (ha : AllF a) (k : Nat) : AllF (a.take k) := fun c hc => ha c (List.mem_of_mem_take hc)
theorem AllF.drop {a : List Nat} (ha : AllF a) (k : Nat) : AllF (a.drop k) := fun c hc => ha c (List.mem_of_mem_drop hc)
theorem AllF.of_get {l : List Nat} (h : AllF l) {i c : Nat} (e : l[i]? = some c) : c ∈ figs := h c (List.mem_of_getElem? e)
def wt (p : Nat × Nat) : Int := ((p.1 : Int) - 48) * (if p.2 % 2 = 0 then 1 else 3)
def wgt (l : List Nat) : Int := (l.reverse.zipIdx.map wt).sum
theorem one3_ix (k : Nat) : ixD (tI [1, 3]) (.int ((k : Int) % 2)) = some (.int (if k % 2 = 0 then 1 else 3)) := by
  by_cases q : k % 2 = 0
  · rw [if_pos q, show (k : Int) % 2 = 0 by omega]; rfl
  · rw [if_neg q, show (k : Int) % 2 = 1 by omega]; rfl
theorem weighed_ok {n : Nat} (hn : 1 ≤ n) {l : List Nat} (h : AllF l) : callD U n 25 [sT l] = .ok (.int (wgt l)) := by
  obtain ⟨n, rfl, hn⟩ := lev hn
  rw [run_weighed]
  simp (disch := (first | assumption | omega | (simp only [LEN] <;> omega) | decide)) only [b_weighed, EV0, EV1, EV2, EV3, EV4, List.getElem?_cons_zero, List.getElem?_cons_succ, List.set_cons_zero, List.set_cons_succ, Res.ofO_some, bop, cop, bfn, mtd, wipeR, Tg.slots, Nat.zero_add, Nat.add_zero, eq_self, decide_true, decide_false, ite_true, ite_false]
  rw [lc_m PyData.int wt]
  · simp (disch := (first | assumption | omega | (simp only [LEN] <;> omega) | decide)) only [EV0, EV1, EV2, EV3, EV4, List.getElem?_cons_zero, List.getElem?_cons_succ, List.set_cons_zero, List.set_cons_succ, Res.ofO_some, bop, cop, bfn, mtd, wipeR, Tg.slots, Nat.zero_add, Nat.add_zero, eq_self, decide_true, decide_false, ite_true, ite_false]
    rfl
  · rintro ⟨c, k⟩ hp
    have hc : c ∈ figs := h c (List.mem_reverse.mp (List.fst_mem_of_mem_zipIdx hp))
    have hb := mem_figs.mp hc
    simp (disch := (first | assumption | omega | (simp only [LEN] <;> omega) | decide)) only [EV0, EV1, EV2, EV3, EV4, List.getElem?_cons_zero, List.getElem?_cons_succ, List.set_cons_zero, List.set_cons_succ, Res.ofO_some, bop, cop, bfn, mtd, wipeR, Tg.slots, Nat.zero_add, Nat.add_zero, eq_self, decide_true, decide_false, ite_true, ite_false, int_c hc, one3_ix]
    rfl
theorem fits_ok {n : Nat} (hn : 2 ≤ n) {l : List Nat} (h : AllF l) : callD U n 27 [sT l] = .ok (.bool (decide (wgt l % 10 = 0))) := by
  obtain ⟨n, rfl, hn⟩ := lev hn
  rw [run_fits]
  simp (disch := (first | assumption | omega | (simp only [LEN] <;> omega) | decide)) only [b_fits, EV0, EV1, EV2, EV3, EV4, List.getElem?_cons_zero, List.getElem?_cons_succ, List.set_cons_zero, List.set_cons_succ, Res.ofO_some, bop, cop, bfn, mtd, wipeR, Tg.slots, Nat.zero_add, Nat.add_zero, eq_self, decide_true, decide_false, ite_true, ite_false, weighed_ok (n := n) (by omega) h]
def chk (l : List Nat) : Nat := 48 + ((0 - wgt (l ++ [48])) % 10).toNat
theorem chk_mem (l : List Nat) : chk l ∈ figs := by
  rw [mem_figs]
  unfold chk
  omega
theorem fig0 : AllF [48] := fun c hc => by rw [List.mem_singleton.mp hc]; decide
theorem check_ok {n : Nat} (hn : 2 ≤ n) {l : List Nat} (h : AllF l) (hl : l.length ≤ 1000) : callD U n 26 [sT l] = .ok (sT [chk l]) := by
  obtain ⟨n, rfl, hn⟩ := lev hn
  rw [run_check_of]
  have hx := ix_figs (i := (0 - wgt (l ++ [48])) % 10) (by omega) (by omega)
  simp (disch := (first | assumption | omega | (simp only [LEN] <;> omega) | decide)) only [b_check_of, EV0, EV1, EV2, EV3, EV4, List.getElem?_cons_zero, List.getElem?_cons_succ, List.set_cons_zero, List.set_cons_succ, Res.ofO_some, bop, cop, bfn, mtd, wipeR, Tg.slots, Nat.zero_add, Nat.add_zero, eq_self, decide_true, decide_false, ite_true, ite_false, weighed_ok (n := n) (by omega) (h.app fig0), con_FIGURES, C_FIGURES_eq, hx]
  rfl
theorem are_ok {n : Nat} (hn : 1 ≤ n) (l : List Nat) : callD U n 37 [sT l] = .ok (.bool (decide (AllF l))) := by
  obtain ⟨n, rfl, hn⟩ := lev hn
  rw [run_are_figures]
  simp (disch := (first | assumption | omega | (simp only [LEN] <;> omega) | decide)) only [b_are_figures, EV0, EV1, EV2, EV3, EV4, List.getElem?_cons_zero, List.getElem?_cons_succ, List.set_cons_zero, List.set_cons_succ, Res.ofO_some, bop, cop, bfn, mtd, wipeR, Tg.slots, Nat.zero_add, Nat.add_zero, eq_self, decide_true, decide_false, ite_true, ite_false]
  rw [lc_m PyData.bool (fun c => decide (c ∈ figs))]
  · simp (disch := (first | assumption | omega | (simp only [LEN] <;> omega) | decide)) only [EV0, EV1, EV2, EV3, EV4, List.getElem?_cons_zero, List.getElem?_cons_succ, List.set_cons_zero, List.set_cons_succ, Res.ofO_some, bop, cop, bfn, mtd, wipeR, Tg.slots, Nat.zero_add, Nat.add_zero, eq_self, decide_true, decide_false, ite_true, ite_false]
    congr 2
    rw [Bool.eq_iff_iff, List.all_eq_true, decide_eq_true_eq]
    simp [AllF]
  · intro c hc
    simp (disch := (first | assumption | omega | (simp only [LEN] <;> omega) | decide)) only [EV0, EV1, EV2, EV3, EV4, List.getElem?_cons_zero, List.getElem?_cons_succ, List.set_cons_zero, List.set_cons_succ, Res.ofO_some, bop, cop, bfn, mtd, wipeR, Tg.slots, Nat.zero_add, Nat.add_zero, eq_self, decide_true, decide_false, ite_true, ite_false, con_FIGURES, C_FIGURES_eq]
/-! ### the sum, plainly -/
theorem wgt_snoc (l : List Nat) (c : Nat) : wgt (l ++ [c]) = ((c : Int) - 48) + ((l.reverse.zipIdx 1).map wt).sum := by
  unfold wgt
  rw [List.reverse_append, List.reverse_singleton, List.singleton_append, List.zipIdx_cons, List.map_cons, List.sum_cons]
  simp [wt]
theorem wgt_snoc0 (l : List Nat) (c : Nat) : wgt (l ++ [c]) = wgt (l ++ [48]) + ((c : Int) - 48) := by
  rw [wgt_snoc, wgt_snoc]
  omega
theorem chk_fits (l : List Nat) : wgt (l ++ [chk l]) % 10 = 0 := by
  rw [wgt_snoc0]
  unfold chk
  omega
/-- the law's own draw of figures -/
def drawF (c : Int) (m : Int) : List Nat := ((List.range m.toNat).map fun (j : Nat) => [48 + (mix (c + 11 * (j : Int)) 9949 10).toNat]).flatten
theorem flat_ones {α : Type} (l : List α) (f : α → Nat) : (l.map fun a => [f a]).flatten = l.map f := by
  induction l with
  | nil => rfl
  | cons a l ih => rw [List.map_cons, List.flatten_cons, ih]; rfl
theorem drawF_eq (c m : Int) : drawF c m = (List.range m.toNat).map fun (j : Nat) => 48 + (mix (c + 11 * (j : Int)) 9949 10).toNat := flat_ones _ _
theorem drawF_len (c m : Int) : (drawF c m).length = m.toNat := by rw [drawF_eq, List.length_map, List.length_range]
theorem drawF_all (c m : Int) : AllF (drawF c m) := fun x hx => by
  rw [drawF_eq] at hx
  obtain ⟨j, _, rfl⟩ := List.mem_map.mp hx
  have h1 := mix_nn (c := c + 11 * (j : Int)) (p := 9949) (m := 10) (by omega)
  have h2 := mix_lt (c := c + 11 * (j : Int)) (p := 9949) (m := 10) (by omega)
  rw [mem_figs]
  omega
theorem lfigs_ok {n : Nat} (hn : 2 ≤ n) {c m : Int} (h0 : 0 ≤ m) (h1 : m ≤ 1000) : callD U n 32 [.int c, .int m] = .ok (sT (drawF c m)) := by
  obtain ⟨n, rfl, hn⟩ := lev hn
  rw [run_law_figures]
  have hl : ((List.range m.toNat).map fun (j : Nat) => [48 + (mix (c + 11 * (j : Int)) 9949 10).toNat]).flatten.length ≤ 1000000 := by
    have := drawF_len c m
    unfold drawF at this
    rw [this]
    omega
  simp (disch := (first | assumption | omega | (simp only [LEN] <;> omega) | decide)) only [b_law_figures, EV0, EV1, EV2, EV3, EV4, List.getElem?_cons_zero, List.getElem?_cons_succ, List.set_cons_zero, List.set_cons_succ, Res.ofO_some, bop, cop, bfn, mtd, wipeR, Tg.slots, Nat.zero_add, Nat.add_zero, eq_self, decide_true, decide_false, ite_true, ite_false]
  rw [lc_m sT (fun (j : Nat) => [48 + (mix (c + 11 * (j : Int)) 9949 10).toNat])]
  · simp (disch := (first | assumption | omega | (simp only [LEN] <;> omega) | decide)) only [EV0, EV1, EV2, EV3, EV4, List.getElem?_cons_zero, List.getElem?_cons_succ, List.set_cons_zero, List.set_cons_succ, Res.ofO_some, bop, cop, bfn, mtd, wipeR, Tg.slots, Nat.zero_add, Nat.add_zero, eq_self, decide_true, decide_false, ite_true, ite_false]
    rfl
  · intro j hj
    have h1 := mix_nn (c := c + 11 * (j : Int)) (p := 9949) (m := 10) (by omega)
    have h2 := mix_lt (c := c + 11 * (j : Int)) (p := 9949) (m := 10) (by omega)
    have hx := ix_figs h1 h2
    unfold figs at hx
    simp (disch := (first | assumption | omega | (simp only [LEN] <;> omega) | decide)) only [EV0, EV1, EV2, EV3, EV4, List.getElem?_cons_zero, List.getElem?_cons_succ, List.set_cons_zero, List.set_cons_succ, Res.ofO_some, bop, cop, bfn, mtd, wipeR, Tg.slots, Nat.zero_add, Nat.add_zero, eq_self, decide_true, decide_false, ite_true, ite_false, mix_ok, hx]
/-- the law's own sum -/
theorem range_rev (l : List Nat) : l.reverse = (List.range l.length).map fun k => l.getD (l.length - 1 - k) 0 := by
  apply List.ext_getElem?
  intro i
  rw [List.getElem?_map]
  by_cases hi : i < l.length
  · rw [List.getElem?_range hi, List.getElem?_reverse hi]
    simp [List.getD_eq_getElem?_getD, show l.length - 1 - i < l.length by omega]
  · rw [List.getElem?_eq_none (by rw [List.length_reverse]; omega), List.getElem?_eq_none (by rw [List.length_range]; omega)]
    rfl
theorem zipIdx_range {α : Type} (f : Nat → α) (n : Nat) : ((List.range n).map f).zipIdx = (List.range n).map fun k => (f k, k) := by
  apply List.ext_getElem?
  intro i
  rw [List.getElem?_zipIdx, List.getElem?_map, List.getElem?_map]
  by_cases hi : i < n
  · rw [List.getElem?_range hi]; simp
  · rw [List.getElem?_eq_none (by rw [List.length_range]; omega)]; rfl
theorem wgt_range (l : List Nat) : wgt l = ((List.range l.length).map fun k => wt (l.getD (l.length - 1 - k) 0, k)).sum := by
  unfold wgt
  rw [range_rev, zipIdx_range, List.map_map]
  rfl
theorem lsum_ok {n : Nat} (hn : 1 ≤ n) {l : List Nat} (h : AllF l) (hl : l.length ≤ 1000) : callD U n 33 [sT l] = .ok (.int (wgt l)) := by
  obtain ⟨n, rfl, hn⟩ := lev hn
  rw [run_law_sum]
  simp (disch := (first | assumption | omega | (simp only [LEN] <;> omega) | decide)) only [b_law_sum, EV0, EV1, EV2, EV3, EV4, List.getElem?_cons_zero, List.getElem?_cons_succ, List.set_cons_zero, List.set_cons_succ, Res.ofO_some, bop, cop, bfn, mtd, wipeR, Tg.slots, Nat.zero_add, Nat.add_zero, eq_self, decide_true, decide_false, ite_true, ite_false]
  refine seq_fin (for_pre (fun pre ρ => ∃ a b, ρ = [.val (sT l), .val (.int ((pre.map fun k => wt (l.getD (l.length - 1 - k) 0, k)).sum)), a, b]) _ ⟨_, _, rfl⟩ ?_) ?_
  · rintro pre k post e ρ ⟨a, b, rfl⟩
    have hk : k < l.length := by
      have : k ∈ List.range (l.length : Int).toNat := by rw [e]; simp
      have := List.mem_range.mp this
      omega
    have hx : l[((l.length : Int) - 1 - (k : Int)).toNat]? = some (l.getD (l.length - 1 - k) 0) := by
      rw [show ((l.length : Int) - 1 - (k : Int)).toNat = l.length - 1 - k by omega, List.getD_eq_getElem?_getD, List.getElem?_eq_getElem (by omega)]
      rfl
    have hc : l.getD (l.length - 1 - k) 0 ∈ figs := h.of_get hx
    have hb := mem_figs.mp hc
    have hi := index_figs hc
    unfold figs at hi
    have h13 := one3_ix k
    simp (disch := (first | assumption | omega | (simp only [LEN] <;> omega) | decide)) only [B_law_sum_1, EV0, EV1, EV2, EV3, EV4, List.getElem?_cons_zero, List.getElem?_cons_succ, List.set_cons_zero, List.set_cons_succ, Res.ofO_some, bop, cop, bfn, mtd, wipeR, Tg.slots, Nat.zero_add, Nat.add_zero, eq_self, decide_true, decide_false, ite_true, ite_false, ix_sT (by omega) hx, hi, h13]
    exact ⟨_, _, by rw [List.map_append, List.sum_append, List.map_cons, List.map_nil, List.sum_cons, List.sum_nil, Int.add_zero]; rfl⟩
  · rintro ρ ⟨a, b, rfl⟩
    simp (disch := (first | assumption | omega | (simp only [LEN] <;> omega) | decide)) only [EV0, EV1, EV2, EV3, EV4, List.getElem?_cons_zero, List.getElem?_cons_succ, List.set_cons_zero, List.set_cons_succ, Res.ofO_some, bop, cop, bfn, mtd, wipeR, Tg.slots, Nat.zero_add, Nat.add_zero, eq_self, decide_true, decide_false, ite_true, ite_false, Int.toNat_natCast]
    rw [wgt_range]
end Bg

set_option Elab.async false
set_option linter.all false
set_option maxRecDepth 100000
set_option maxHeartbeats 1000000
/-! Checks: one figure otherwise, two exchanged, one that lacks. -/
namespace Bg
open PySem PySem.Spec PyProof.Rows L2 PySem.StrLaws
/-! ### plainly -/
def wg (k : Nat) (a : List Nat) : Int := ((a.reverse.zipIdx k).map wt).sum
theorem wgt_wg (l : List Nat) : wgt l = wg 0 l := rfl
theorem wg_app (k : Nat) (a b : List Nat) : wg k (a ++ b) = wg k b + wg (k + b.length) a := by
  unfold wg
  rw [List.reverse_append, List.zipIdx_append, List.map_append, List.sum_append, List.length_reverse]
theorem wg_one (k c : Nat) : wg k [c] = wt (c, k) := by simp [wg]
theorem wgt_mid (a : List Nat) (c : Nat) (b : List Nat) : wgt (a ++ c :: b) = wgt b + wt (c, b.length) + wg (b.length + 1) a := by
  have e : a ++ c :: b = a ++ ([c] ++ b) := rfl
  rw [e, wgt_wg, wg_app, wg_app, wg_one, ← wgt_wg, Nat.zero_add, Nat.zero_add, List.length_append, List.length_singleton, Nat.add_comm 1]
theorem wgt_two (a : List Nat) (x y : Nat) (b : List Nat) : wgt (a ++ x :: y :: b) = wgt b + wt (y, b.length) + wt (x, b.length + 1) + wg (b.length + 2) a := by
  have e : a ++ x :: y :: b = a ++ ([x] ++ (y :: b)) := rfl
  rw [e, wgt_wg, wg_app, wg_app, wg_one, ← wgt_wg]
  have h := wgt_mid [] y b
  simp only [List.nil_append] at h
  rw [h, Nat.zero_add, Nat.zero_add, List.length_append, List.length_singleton, List.length_cons]
  have h0 : wg (b.length + 1) [] = 0 := rfl
  rw [h0, show 1 + (b.length + 1) = b.length + 2 by omega]
  omega
theorem wt_cases (k : Nat) : (∀ c, wt (c, k) = (c : Int) - 48) ∧ (∀ c, wt (c, k + 1) = ((c : Int) - 48) * 3) ∨ (∀ c, wt (c, k) = ((c : Int) - 48) * 3) ∧ (∀ c, wt (c, k + 1) = (c : Int) - 48) := by
  unfold wt
  by_cases h : k % 2 = 0
  · refine .inl ⟨fun c => ?_, fun c => ?_⟩
    · dsimp only; rw [if_pos h]; omega
    · dsimp only; rw [if_neg (by omega)]
  · refine .inr ⟨fun c => ?_, fun c => ?_⟩
    · dsimp only; rw [if_neg h]
    · dsimp only; rw [if_pos (by omega)]; omega
theorem mid_fits {a b : List Nat} {c d : Nat} (hc : c ∈ figs) (hd : d ∈ figs) (h : wgt (a ++ c :: b) % 10 = 0) : wgt (a ++ d :: b) % 10 = 0 ↔ d = c := by
  have h1 := mem_figs.mp hc
  have h2 := mem_figs.mp hd
  rw [wgt_mid] at h ⊢
  generalize wgt b = X at *
  generalize wg (b.length + 1) a = Y at *
  rcases wt_cases b.length with ⟨e, _⟩ | ⟨e, _⟩
  · rw [e] at h ⊢
    omega
  · rw [e] at h ⊢
    omega
theorem swap_fits {a b : List Nat} {x y : Nat} (hx : x ∈ figs) (hy : y ∈ figs) (h : wgt (a ++ x :: y :: b) % 10 = 0) : wgt (a ++ y :: x :: b) % 10 = 0 ↔ ((x : Int) - (y : Int) = 5 ∨ (y : Int) - (x : Int) = 5 ∨ x = y) := by
  have h1 := mem_figs.mp hx
  have h2 := mem_figs.mp hy
  rw [wgt_two] at h ⊢
  generalize wgt b = X at *
  generalize wg (b.length + 2) a = Y at *
  rcases wt_cases b.length with ⟨e, e'⟩ | ⟨e, e'⟩
  · rw [e, e'] at h ⊢
    omega
  · rw [e, e'] at h ⊢
    omega
theorem filter_one {c : Nat} (hc : c ∈ figs) : figs.filter (fun d => decide (d = c)) = [c] := by
  have h : ∀ c ∈ figs, figs.filter (fun d => decide (d = c)) = [c] := by decide
  exact h c hc
theorem split_at {l : List Nat} {k : Nat} (h : k < l.length) : l = l.take k ++ l.getD k 0 :: l.drop (k + 1) := by
  have e : l.getD k 0 = l[k] := by rw [List.getD_eq_getElem?_getD, List.getElem?_eq_getElem h]; rfl
  rw [e, ← List.drop_eq_getElem_cons h, List.take_append_drop]
theorem split_two {l : List Nat} {k : Nat} (h : k + 1 < l.length) : l = l.take k ++ l.getD k 0 :: l.getD (k + 1) 0 :: l.drop (k + 2) := by
  have e : l.getD k 0 = l[k] := by rw [List.getD_eq_getElem?_getD, List.getElem?_eq_getElem (by omega)]; rfl
  have e2 : l.getD (k + 1) 0 = l[k + 1] := by rw [List.getD_eq_getElem?_getD, List.getElem?_eq_getElem h]; rfl
  rw [e, e2, ← List.drop_eq_getElem_cons h, ← List.drop_eq_getElem_cons (by omega), List.take_append_drop]
/-! ### replace -/
def rp1 (q d : Nat) (t : List Nat) : List Nat := t.map fun x => if x = q then d else x
theorem replL_one (q d : Nat) : ∀ t : List Nat, replL [q] [d] t = rp1 q d t
  | [] => replL_nil
  | x :: r => by
    by_cases h : x = q
    · rw [replL_hit (by simp) (by simp [h])]
      have : (x :: r).drop [q].length = r := rfl
      rw [this, replL_one q d r]
      simp [rp1, h]
    · rw [replL_miss (by simp [h]), replL_one q d r]
      simp [rp1, h]
theorem repl_T (q d : Nat) (t : List Nat) : Txt.replace (T t) ⟨#[q]⟩ (T [d]) = T (rp1 q d t) := by
  have h := replace_list (x := T t) (y := ⟨#[q]⟩) (z := T [d]) (Nat.le_refl 1)
  have e1 : (T t).cps.toList = t := rfl
  have e2 : (⟨#[q]⟩ : Str).cps.toList = [q] := rfl
  have e3 : (T [d]).cps.toList = [d] := rfl
  rw [e1, e2, e3, replL_one] at h
  exact TL.ext_tl h
theorem kRp_T {q d : Nat} {t : List Nat} (hq : q ≠ d) (hl : t.length ≤ 10000) : kRp ⟨#[q]⟩ (some (.val (sT t))) (some (.val (sT [d]))) = .ok (sT (rp1 q d t)) := by
  show Res.ofO (rplD (T t) ⟨#[q]⟩ (T [d])) = _
  unfold rplD gd
  have hne : ((⟨#[q]⟩ : Str) == T [d]) = false := by
    rw [beq_eq_false_iff_ne]
    intro z
    have := congrArg (fun s : Str => s.cps.toList) z
    replace this : [q] = [d] := this
    exact hq (List.cons.inj this).1
  rw [if_pos ⟨hne, by rw [T_len, T_len]; simp only [List.length_cons, List.length_nil]; omega⟩, repl_T]
  rfl
theorem rp1_mid {a b : List Nat} (ha : AllF a) (hb : AllF b) (d : Nat) : rp1 63 d (a ++ 63 :: b) = a ++ d :: b := by
  have key : ∀ l : List Nat, AllF l → l.map (fun x => if x = 63 then d else x) = l := fun l hl => by
    have : ∀ x ∈ l, (if x = 63 then d else x) = x := fun x hx => by
      have := mem_figs.mp (hl x hx)
      rw [if_neg (by omega)]
    rw [List.map_congr_left this, List.map_id']
  unfold rp1
  rw [List.map_append, List.map_cons, key a ha, key b hb]
  simp
theorem lacking_ok {n : Nat} (hn : 3 ≤ n) {a b : List Nat} {c : Nat} (ha : AllF a) (hb : AllF b) (hc : c ∈ figs) (h : wgt (a ++ c :: b) % 10 = 0) (hl : a.length + b.length ≤ 1000) : callD U n 28 [sT (a ++ 63 :: b)] = .ok (sT [c]) := by
  obtain ⟨n, rfl, hn⟩ := lev hn
  rw [run_lacking]
  have hlc : ∀ x1, kLc2 (collect (lcG U (callD U n) [.val (sT (a ++ 63 :: b)), x1] (.one 1) (.some (.call 27 (.cons (.repl 0 ⟨#[63]⟩ 1) (.nil)))) (.var 1)) (figs.map sC)) = .ok (lM sC ((figs.filter (fun d => decide (d = c))).map id)) := by
    intro x1
    rw [lc_f sC id (fun d => decide (d = c))]
    intro d hd
    have hd' := mem_figs.mp hd
    have k := kRp_T (q := 63) (d := d) (t := a ++ 63 :: b) (by omega) (by rw [List.length_append, List.length_cons]; omega)
    rw [rp1_mid ha hb] at k
    have all : AllF (a ++ d :: b) := ha.app fun x hx => by
      rcases List.mem_cons.mp hx with z | z
      · rw [z]; exact hd
      · exact hb x z
    have f := fits_ok (n := n) (by omega) all
    have e := mid_fits hc hd h
    have e1 : decide (wgt (a ++ d :: b) % 10 = 0) = decide (d = c) := decide_eq_decide.mpr e
    rw [e1] at f
    generalize a ++ d :: b = AB at *
    generalize a ++ 63 :: b = AQ at *
    by_cases hdc : d = c
    · have hb : decide (d = c) = true := decide_eq_true hdc
      rw [hb] at f ⊢
      simp (disch := (first | assumption | omega | (simp only [LEN] <;> omega) | decide)) only [EV0, EV1, EV2, EV3, EV4, List.getElem?_cons_zero, List.getElem?_cons_succ, List.set_cons_zero, List.set_cons_succ, Res.ofO_some, bop, cop, bfn, mtd, wipeR, Tg.slots, Nat.zero_add, Nat.add_zero, eq_self, decide_true, decide_false, ite_true, ite_false, k, f, id]
    · have hb : decide (d = c) = false := decide_eq_false hdc
      rw [hb] at f ⊢
      simp (disch := (first | assumption | omega | (simp only [LEN] <;> omega) | decide)) only [EV0, EV1, EV2, EV3, EV4, List.getElem?_cons_zero, List.getElem?_cons_succ, List.set_cons_zero, List.set_cons_succ, Res.ofO_some, bop, cop, bfn, mtd, wipeR, Tg.slots, Nat.zero_add, Nat.add_zero, eq_self, decide_true, decide_false, ite_true, ite_false, k, f, Bool.false_eq_true, if_false]
  have hlc := hlc .no
  rw [filter_one hc] at hlc
  have hx : ixD (lM sC ([c].map id)) (.int 0) = some (sC c) := ix_lM (by decide) rfl
  generalize lM sC ([c].map id) = LL at *
  generalize a ++ 63 :: b = AQ at *
  simp (disch := (first | assumption | omega | (simp only [LEN] <;> omega) | decide)) only [b_lacking, EV0, EV1, EV2, EV3, EV4, List.getElem?_cons_zero, List.getElem?_cons_succ, List.set_cons_zero, List.set_cons_succ, Res.ofO_some, bop, cop, bfn, mtd, wipeR, Tg.slots, Nat.zero_add, Nat.add_zero, eq_self, decide_true, decide_false, ite_true, ite_false, con_FIGURES, C_FIGURES_eq] at hlc ⊢
  rw [hlc]
  simp (disch := (first | assumption | omega | (simp only [LEN] <;> omega) | decide)) only [EV0, EV1, EV2, EV3, EV4, List.getElem?_cons_zero, List.getElem?_cons_succ, List.set_cons_zero, List.set_cons_succ, Res.ofO_some, bop, cop, bfn, mtd, wipeR, Tg.slots, Nat.zero_add, Nat.add_zero, eq_self, decide_true, decide_false, ite_true, ite_false, hx]
theorem nx_exs {o : Out} {Q : List Sl → Prop} (h : ∃ ρ, o = .nx ρ ∧ Q ρ) : Nx o Q := by
  obtain ⟨ρ, e, q⟩ := h
  rw [e]
  exact q
theorem getD_in {l : List Nat} {k : Nat} (h : k < l.length) : l.getD k 0 ∈ l := by
  rw [List.getD_eq_getElem?_getD, List.getElem?_eq_getElem h]
  exact List.getElem_mem h
/-! ### silent slips -/
def fitB (l : List Nat) : Bool := decide (wgt l % 10 = 0)
def exch (l : List Nat) (k : Nat) : List Nat := l.take k ++ [l.getD (k + 1) 0] ++ [l.getD k 0] ++ l.drop (k + 2)
theorem exch_all {l : List Nat} (h : AllF l) {k : Nat} (hk : k + 1 < l.length) : AllF (exch l k) := by
  refine ((((h.take k).app fun c hc => ?_).app fun c hc => ?_)).app (h.drop _)
  · rw [List.mem_singleton.mp hc]; exact h _ (getD_in hk)
  · rw [List.mem_singleton.mp hc]; exact h _ (getD_in (by omega))
theorem exch_len {l : List Nat} {k : Nat} (hk : k + 1 < l.length) : (exch l k).length = l.length := by
  unfold exch
  simp only [List.length_append, List.length_take, List.length_drop, List.length_singleton]
  omega
theorem exch_two (l : List Nat) (k : Nat) : exch l k = l.take k ++ l.getD (k + 1) 0 :: l.getD k 0 :: l.drop (k + 2) := by unfold exch; simp
theorem ixd_getD {l : List Nat} {k : Nat} (h : k < l.length) : ixD (sT l) (.int (k : Int)) = some (sT [l.getD k 0]) := by
  refine ix_sT (by omega) ?_
  show l[k]? = _
  rw [List.getD_eq_getElem?_getD, List.getElem?_eq_getElem h]
  rfl
theorem exch_ok {n : Nat} (hn : 1 ≤ n) {l : List Nat} {k : Nat} (hk : k + 1 < l.length) (hl : l.length ≤ 1000) : callD U n 29 [sT l, .int (k : Int)] = .ok (sT (exch l k)) := by
  obtain ⟨n, rfl, hn⟩ := lev hn
  rw [run_exchanged]
  have x0 := ixd_getD (l := l) (k := k) (by omega)
  have x1 := ixd_getD (l := l) (k := k + 1) hk
  rw [show ((k + 1 : Nat) : Int) = (k : Int) + 1 by omega] at x1
  have t0 : ((k : Nat) : Int).toNat = k := rfl
  have t2 : ((k : Int) + 2).toNat = k + 2 := by omega
  have b1 : (l.take k).length + [l.getD (k + 1) 0].length ≤ 1000000 := by rw [List.length_take, List.length_singleton]; omega
  have b2 : (l.take k ++ [l.getD (k + 1) 0]).length + [l.getD k 0].length ≤ 1000000 := by rw [List.length_append, List.length_take, List.length_singleton, List.length_singleton]; omega
  have b3 : (l.take k ++ [l.getD (k + 1) 0] ++ [l.getD k 0]).length + (l.drop (k + 2)).length ≤ 1000000 := by rw [List.length_append, List.length_append, List.length_take, List.length_singleton, List.length_singleton, List.length_drop]; omega
  simp (disch := (first | assumption | omega | (simp only [LEN] <;> omega) | decide)) only [b_exchanged, EV0, EV1, EV2, EV3, EV4, List.getElem?_cons_zero, List.getElem?_cons_succ, List.set_cons_zero, List.set_cons_succ, Res.ofO_some, bop, cop, bfn, mtd, wipeR, Tg.slots, Nat.zero_add, Nat.add_zero, eq_self, decide_true, decide_false, ite_true, ite_false, x0, x1, cut_hi, cut_lo, t0, t2]
  rfl
def quiB (l : List Nat) (k : Nat) : Bool := !decide (l.getD k 0 = l.getD (k + 1) 0) && decide (fitB (exch l k) = fitB l)
def quiL (l : List Nat) : List Int := ((List.range (l.length - 1)).filter (quiB l)).map fun (k : Nat) => (k : Int)
theorem eq_b (a b : Bool) : cEq (.bool a) (.bool b) = some (.bool (decide (a = b))) := by cases a <;> cases b <;> rfl
theorem ne_b (a b : Bool) : cNe (.bool a) (.bool b) = some (.bool (!decide (a = b))) := by cases a <;> cases b <;> rfl
theorem silent_ok {n : Nat} (hn : 3 ≤ n) {l : List Nat} (h : AllF l) (hl : l.length ≤ 1000) : callD U n 30 [sT l] = .ok (tI (quiL l)) := by
  obtain ⟨n, rfl, hn⟩ := lev hn
  rw [run_silent]
  have tl : ((l.length : Int) - 1).toNat = l.length - 1 := by omega
  simp (disch := (first | assumption | omega | (simp only [LEN] <;> omega) | decide)) only [b_silent, EV0, EV1, EV2, EV3, EV4, List.getElem?_cons_zero, List.getElem?_cons_succ, List.set_cons_zero, List.set_cons_succ, Res.ofO_some, bop, cop, bfn, mtd, wipeR, Tg.slots, Nat.zero_add, Nat.add_zero, eq_self, decide_true, decide_false, ite_true, ite_false, tl]
  refine seq_fin (for_pre (fun pre ρ => ∃ x2, ρ = [.val (sT l), .own ((pre.filter (quiB l)).map fun (k : Nat) => PyData.int (k : Int)), x2]) (List.range (l.length - 1)) ⟨_, rfl⟩ ?_) ?_
  · rintro pre k post e ρ ⟨x2, rfl⟩
    have hk : k < l.length - 1 := List.mem_range.mp (by rw [e]; simp)
    have hpl : pre.length ≤ 1000 := by
      have := congrArg List.length e
      rw [List.length_range, List.length_append, List.length_cons] at this
      omega
    have hcap : ((pre.filter (quiB l)).map fun (k : Nat) => PyData.int (k : Int)).length + 1 ≤ 1000000 := by
      rw [List.length_map]
      have := List.length_filter_le (quiB l) pre
      omega
    have x0 := ixd_getD (l := l) (k := k) (by omega)
    have x1 := ixd_getD (l := l) (k := k + 1) (by omega)
    rw [show ((k + 1 : Nat) : Int) = (k : Int) + 1 by omega] at x1
    have a := exch_ok (n := n) (by omega) (l := l) (k := k) (by omega) hl
    have f1 := fits_ok (n := n) (by omega) (exch_all h (k := k) (by omega))
    have f2 := fits_ok (n := n) (by omega) h
    have e1 : decide (wgt (exch l k) % 10 = 0) = fitB (exch l k) := rfl
    have e2 : decide (wgt l % 10 = 0) = fitB l := rfl
    rw [e1] at f1
    rw [e2] at f2
    have hq : quiB l k = (!decide (l.getD k 0 = l.getD (k + 1) 0) && decide (fitB (exch l k) = fitB l)) := rfl
    refine nx_exs ⟨[.val (sT l), .own (((pre ++ [k]).filter (quiB l)).map fun (k : Nat) => PyData.int (k : Int)), .val (.int (k : Int))], ?_, .val (.int (k : Int)), rfl⟩
    rw [List.filter_append]
    have hone : [k].filter (quiB l) = if quiB l k = true then [k] else [] := by
      rw [List.filter_cons, List.filter_nil]
    rw [hone]
    generalize fitB l = F2 at *
    generalize fitB (exch l k) = F1 at *
    generalize exch l k = EX at *
    generalize hA : l.getD k 0 = A at *
    generalize hB : l.getD (k + 1) 0 = B at *
    generalize pre.filter (quiB l) = PF at *
    by_cases q1 : A = B
    · have : quiB l k = false := by rw [hq, decide_eq_true q1]; rfl
      rw [this]
      simp (disch := (first | assumption | omega | (simp only [LEN] <;> omega) | decide)) only [B_silent_1, EV0, EV1, EV2, EV3, EV4, List.getElem?_cons_zero, List.getElem?_cons_succ, List.set_cons_zero, List.set_cons_succ, Res.ofO_some, bop, cop, bfn, mtd, wipeR, Tg.slots, Nat.zero_add, Nat.add_zero, eq_self, decide_true, decide_false, ite_true, ite_false, x0, x1, q1, Bool.false_eq_true, if_false, List.append_nil]
    · by_cases q2 : F1 = F2
      · have : quiB l k = true := by rw [hq, decide_eq_false q1, decide_eq_true q2]; rfl
        rw [this]
        simp (disch := (first | assumption | omega | (simp only [LEN] <;> omega) | decide)) only [B_silent_1, EV0, EV1, EV2, EV3, EV4, List.getElem?_cons_zero, List.getElem?_cons_succ, List.set_cons_zero, List.set_cons_succ, Res.ofO_some, bop, cop, bfn, mtd, wipeR, Tg.slots, Nat.zero_add, Nat.add_zero, eq_self, decide_true, decide_false, ite_true, ite_false, x0, x1, q1, a, f1, f2, eq_b, q2, if_true, List.map_append, List.map_cons, List.map_nil]
      · have : quiB l k = false := by rw [hq, decide_eq_false q1, decide_eq_false q2]; rfl
        rw [this]
        simp (disch := (first | assumption | omega | (simp only [LEN] <;> omega) | decide)) only [B_silent_1, EV0, EV1, EV2, EV3, EV4, List.getElem?_cons_zero, List.getElem?_cons_succ, List.set_cons_zero, List.set_cons_succ, Res.ofO_some, bop, cop, bfn, mtd, wipeR, Tg.slots, Nat.zero_add, Nat.add_zero, eq_self, decide_true, decide_false, ite_true, ite_false, x0, x1, q1, a, f1, f2, eq_b, q2, Bool.false_eq_true, if_false, List.append_nil]
  · rintro ρ ⟨x2, rfl⟩
    unfold quiL
    have e : PyData.list ((List.filter (quiB l) (List.range (l.length - 1))).map fun (k : Nat) => PyData.int (k : Int)) = lM PyData.int (((List.range (l.length - 1)).filter (quiB l)).map fun (k : Nat) => (k : Int)) := by
      unfold lM
      rw [List.map_map]
      rfl
    simp (disch := (first | assumption | omega | (simp only [LEN] <;> omega) | decide)) only [EV0, EV1, EV2, EV3, EV4, List.getElem?_cons_zero, List.getElem?_cons_succ, List.set_cons_zero, List.set_cons_succ, Res.ofO_some, bop, cop, bfn, mtd, wipeR, Tg.slots, Nat.zero_add, Nat.add_zero, eq_self, decide_true, decide_false, ite_true, ite_false, e]
theorem qui_in {l : List Nat} {k : Nat} (hk : k < l.length - 1) : cIn (.int (k : Int)) (tI (quiL l)) = some (.bool (quiB l k)) := by
  rw [in_tM gd_int (by omega) (fun a x z => by cases z)]
  congr 2
  have : ((k : Int) ∈ quiL l) ↔ quiB l k = true := by
    unfold quiL
    rw [List.mem_map]
    constructor
    · rintro ⟨j, hj, e⟩
      have : j = k := by omega
      rw [← this]
      exact (List.mem_filter.mp hj).2
    · intro h
      exact ⟨k, List.mem_filter.mpr ⟨List.mem_range.mpr hk, h⟩, rfl⟩
  cases hq : quiB l k with
  | true => exact decide_eq_true (this.mpr hq)
  | false => exact decide_eq_false fun z => by rw [this.mp z] at hq; cases hq
/-- in figures that fit -/
theorem qui_five {l : List Nat} (h : AllF l) (hw : wgt l % 10 = 0) {k : Nat} (hk : k + 1 < l.length) :
    fitB (exch l k) = decide ((l.getD k 0 : Int) - (l.getD (k + 1) 0 : Int) = 5 ∨ (l.getD (k + 1) 0 : Int) - (l.getD k 0 : Int) = 5 ∨ l.getD k 0 = l.getD (k + 1) 0) ∧
    quiB l k = decide ((l.getD k 0 : Int) - (l.getD (k + 1) 0 : Int) = 5 ∨ (l.getD (k + 1) 0 : Int) - (l.getD k 0 : Int) = 5) := by
  have hs := split_two hk
  have hx : l.getD k 0 ∈ figs := h _ (getD_in (by omega))
  have hy : l.getD (k + 1) 0 ∈ figs := h _ (getD_in hk)
  have hw' := hw
  rw [hs] at hw'
  have e := swap_fits hx hy hw'
  rw [← exch_two] at e
  have e1 : fitB (exch l k) = decide ((l.getD k 0 : Int) - (l.getD (k + 1) 0 : Int) = 5 ∨ (l.getD (k + 1) 0 : Int) - (l.getD k 0 : Int) = 5 ∨ l.getD k 0 = l.getD (k + 1) 0) := decide_eq_decide.mpr e
  refine ⟨e1, ?_⟩
  have e2 : fitB l = true := decide_eq_true hw
  unfold quiB
  rw [e1, e2]
  generalize l.getD k 0 = A at *
  generalize l.getD (k + 1) 0 = B at *
  by_cases q1 : A = B
  · rw [decide_eq_true q1]
    show false = _
    exact (decide_eq_false (by omega)).symm
  · rw [decide_eq_false q1]
    by_cases q2 : (A : Int) - (B : Int) = 5 ∨ (B : Int) - (A : Int) = 5
    · rw [decide_eq_true q2, decide_eq_true (show (A : Int) - (B : Int) = 5 ∨ (B : Int) - (A : Int) = 5 ∨ A = B by omega)]
      rfl
    · rw [decide_eq_false q2, decide_eq_false (show ¬ ((A : Int) - (B : Int) = 5 ∨ (B : Int) - (A : Int) = 5 ∨ A = B) by omega)]
      rfl
end Bg

set_option Elab.async false
set_option linter.all false
set_option maxRecDepth 100000
set_option maxHeartbeats 1000000
/-! k04 -/
namespace Bg
open PySem PySem.Spec PyProof.Rows L2
theorem wg_even (a : List Nat) : ∀ k m : Nat, wg (k + 2 * m) a = wg k a := by
  have : ∀ (l : List Nat) (k m : Nat), (l.zipIdx (k + 2 * m)).map wt = (l.zipIdx k).map wt := by
    intro l
    induction l with
    | nil => intro k m; rfl
    | cons c l ih =>
      intro k m
      have e : wt (c, k + 2 * m) = wt (c, k) := by
        unfold wt
        dsimp only
        rw [show (k + 2 * m) % 2 = k % 2 by omega]
      rw [List.zipIdx_cons, List.zipIdx_cons, List.map_cons, List.map_cons, e, show k + 2 * m + 1 = (k + 1) + 2 * m by omega, ih]
  intro k m
  unfold wg
  rw [this]
theorem wgt_ahead {a b : List Nat} (hb : b.length % 2 = 0) : wgt (a ++ b) = wgt b + wgt a := by
  rw [wgt_wg, wg_app, Nat.zero_add]
  have := wg_even a 0 (b.length / 2)
  rw [show 0 + 2 * (b.length / 2) = b.length by omega] at this
  rw [this]
  rfl
theorem wt_zero (k : Nat) : wt (48, k) = 0 := by unfold wt; simp
theorem wgt_nought (l : List Nat) : wgt (48 :: l) = wgt l := by
  have h := wgt_mid [] 48 l
  simp only [List.nil_append] at h
  have h0 : wg (l.length + 1) [] = 0 := rfl
  rw [h, wt_zero, h0]
  omega
theorem chk_nought (l : List Nat) : chk (48 :: 48 :: l) = chk l := by
  unfold chk
  rw [List.cons_append, List.cons_append, wgt_nought, wgt_nought]
theorem k04_one {n : Nat} (hn : 3 ≤ n) {F : List Nat} (hF : AllF F) (hw : wgt F % 10 = 0) (hl : F.length ≤ 100) {p : Nat} (hp : p < F.length) {d : Nat} (hd : d ∈ figs) (x0 x1 x2 x3 x6 x7 x8 x9 x10 x11 : Sl) :
    ∃ y11, forF U (callD U n) (.one 8) B_law_k04_1 [x0, x1, x2, x3, .val (sT F), .val (.int (p : Int)), x6, x7, x8, x9, x10, x11] (sC d) = .nx [x0, x1, x2, x3, .val (sT F), .val (.int (p : Int)), x6, x7, .val (sC d), x9, x10, y11] := by
  have hs := split_at hp
  have hc : F.getD p 0 ∈ figs := hF _ (getD_in hp)
  have hw' := hw
  rw [hs] at hw'
  have e := mid_fits hc hd hw'
  have all : AllF (F.take p ++ [d] ++ F.drop (p + 1)) := ((hF.take p).app fun c hc => by rw [List.mem_singleton.mp hc]; exact hd).app (hF.drop _)
  have f := fits_ok (n := n) (by omega) all
  have ee : F.take p ++ [d] ++ F.drop (p + 1) = F.take p ++ d :: F.drop (p + 1) := by simp
  rw [← ee] at e
  rw [show decide (wgt (F.take p ++ [d] ++ F.drop (p + 1)) % 10 = 0) = decide (d = F.getD p 0) from decide_eq_decide.mpr e] at f
  have x := ixd_getD hp
  have t0 : ((p : Nat) : Int).toNat = p := rfl
  have t1 : ((p : Int) + 1).toNat = p + 1 := by omega
  have b1 : (F.take p).length + [d].length ≤ 1000000 := by rw [List.length_take, List.length_singleton]; omega
  have b2 : (F.take p ++ [d]).length + (F.drop (p + 1)).length ≤ 1000000 := by rw [List.length_append, List.length_take, List.length_singleton, List.length_drop]; omega
  have hq : cEq (sC d) (sT [F.getD p 0]) = some (.bool (decide (d = F.getD p 0))) := by
    have := eq_sT [d] [F.getD p 0]
    rw [this]
    congr 2
    rw [decide_eq_decide]
    simp
  clear ee e hw' hs
  refine ⟨.val (sT (F.take p ++ [d] ++ F.drop (p + 1))), ?_⟩
  have nb : ∀ b : Bool, cNe (.bool b) (.bool b) = some (.bool false) := fun b => by cases b <;> rfl
  generalize decide (d = F.getD p 0) = BB at *
  generalize F.getD p 0 = C at *
  generalize hT : F.take p = TK at *
  generalize hD : F.drop (p + 1) = DR at *
  simp (disch := (first | assumption | omega | (simp only [LEN] <;> omega) | decide)) only [B_law_k04_1, EV0, EV1, EV2, EV3, EV4, List.getElem?_cons_zero, List.getElem?_cons_succ, List.set_cons_zero, List.set_cons_succ, Res.ofO_some, bop, cop, bfn, mtd, wipeR, Tg.slots, Nat.zero_add, Nat.add_zero, eq_self, decide_true, decide_false, ite_true, ite_false, cut_hi, cut_lo, t0, t1, hT, hD, f, x, hq, nb]
theorem k04_two {n : Nat} (hn : 4 ≤ n) {F : List Nat} (hF : AllF F) (hw : wgt F % 10 = 0) (hl : F.length ≤ 100) {p : Nat} (hp : p < F.length) (x0 x1 x2 x3 x5 x6 x7 x8 x9 x10 x11 : Sl) :
    ∃ y8 y11, forF U (callD U n) (.one 5) B_law_k04_2 [x0, x1, x2, x3, .val (sT F), x5, x6, x7, x8, x9, x10, x11] (.int (p : Int)) = .nx [x0, x1, x2, x3, .val (sT F), .val (.int (p : Int)), x6, x7, y8, x9, x10, y11] := by
  have hs := split_at hp
  have hc : F.getD p 0 ∈ figs := hF _ (getD_in hp)
  have hw' := hw
  rw [hs] at hw'
  have a := lacking_ok (n := n) (by omega) (hF.take p) (hF.drop (p + 1)) hc hw' (by rw [List.length_take, List.length_drop]; omega)
  have ee : F.take p ++ 63 :: F.drop (p + 1) = F.take p ++ [63] ++ F.drop (p + 1) := by simp
  rw [ee] at a
  have x := ixd_getD hp
  have t0 : ((p : Nat) : Int).toNat = p := rfl
  have t1 : ((p : Int) + 1).toNat = p + 1 := by omega
  have b1 : (F.take p).length + [63].length ≤ 1000000 := by rw [List.length_take, List.length_singleton]; omega
  have b2 : (F.take p ++ [63]).length + (F.drop (p + 1)).length ≤ 1000000 := by rw [List.length_append, List.length_take, List.length_singleton, List.length_drop]; omega
  have lp : ∃ y8 y11, forGo (forF U (callD U n) (.one 8) B_law_k04_1) (figs.map sC) [x0, x1, x2, x3, .val (sT F), .val (.int (p : Int)), x6, x7, x8, x9, x10, x11] = .nx [x0, x1, x2, x3, .val (sT F), .val (.int (p : Int)), x6, x7, y8, x9, x10, y11] := by
    have h := for_pre (f := forF U (callD U n) (.one 8) B_law_k04_1) (enc := sC) (fun pre ρ => ∃ y8 y11, ρ = [x0, x1, x2, x3, .val (sT F), .val (.int (p : Int)), x6, x7, y8, x9, x10, y11]) figs ⟨x8, x11, rfl⟩ ?_
    · cases ho : forGo (forF U (callD U n) (.one 8) B_law_k04_1) (figs.map sC) [x0, x1, x2, x3, .val (sT F), .val (.int (p : Int)), x6, x7, x8, x9, x10, x11] with
      | nx ρ =>
        rw [ho] at h
        obtain ⟨y8, y11, e⟩ := h
        exact ⟨y8, y11, by rw [e]⟩
      | ret d => rw [ho] at h; exact h.elim
      | ex c ρ => rw [ho] at h; exact h.elim
      | no => rw [ho] at h; exact h.elim
    · rintro pre d post e ρ ⟨y8, y11, rfl⟩
      have hd : d ∈ figs := by rw [e]; simp
      obtain ⟨z11, e2⟩ := k04_one (n := n) (by omega) hF hw hl hp hd x0 x1 x2 x3 x6 x7 y8 x9 x10 y11
      exact nx_exs ⟨_, e2, .val (sC d), z11, rfl⟩
  obtain ⟨y8, y11, lp⟩ := lp
  refine ⟨y8, y11, ?_⟩
  have fg : sT [48, 49, 50, 51, 52, 53, 54, 55, 56, 57] = sT figs := rfl
  have nn : ∀ l : List Nat, cNe (sT l) (sT l) = some (.bool false) := fun l => by rw [ne_sT]; simp
  clear ee hw' hs
  generalize F.getD p 0 = C at *
  generalize hT : F.take p = TK at *
  generalize hD : F.drop (p + 1) = DR at *
  simp (disch := (first | assumption | omega | (simp only [LEN] <;> omega) | decide)) only [B_law_k04_2, EV0, EV1, EV2, EV3, EV4, List.getElem?_cons_zero, List.getElem?_cons_succ, List.set_cons_zero, List.set_cons_succ, Res.ofO_some, bop, cop, bfn, mtd, wipeR, Tg.slots, Nat.zero_add, Nat.add_zero, eq_self, decide_true, decide_false, ite_true, ite_false, fg, lp, cut_hi, cut_lo, t0, t1, hT, hD, a, x, nn]
theorem k04_three {n : Nat} (hn : 4 ≤ n) {F : List Nat} (hF : AllF F) (hw : wgt F % 10 = 0) (hl : F.length ≤ 100) {p : Nat} (hp : p < F.length - 1) (x0 x1 x2 x3 x5 x6 x7 x8 x9 x10 x11 : Sl) :
    ∃ y6 y8 y9 y10, forF U (callD U n) (.one 5) B_law_k04_3 [x0, x1, x2, x3, .val (sT F), x5, x6, x7, x8, x9, x10, x11] (.int (p : Int)) = .nx [x0, x1, x2, x3, .val (sT F), .val (.int (p : Int)), y6, x7, y8, y9, y10, x11] := by
  have x0' := ixd_getD (l := F) (k := p) (by omega)
  have x1' := ixd_getD (l := F) (k := p + 1) (by omega)
  rw [show ((p + 1 : Nat) : Int) = (p : Int) + 1 by omega] at x1'
  have hx : F.getD p 0 ∈ figs := hF _ (getD_in (by omega))
  have hy : F.getD (p + 1) 0 ∈ figs := hF _ (getD_in (by omega))
  have i0 := index_figs hx
  have i1 := index_figs hy
  obtain ⟨q1, q2⟩ := qui_five hF hw (k := p) (by omega)
  have s := silent_ok (n := n) (by omega) hF (by omega)
  have sin := qui_in (l := F) (k := p) hp
  have f := fits_ok (n := n) (by omega) (exch_all hF (k := p) (by omega))
  have e1 : decide (wgt (exch F p) % 10 = 0) = fitB (exch F p) := rfl
  rw [e1, q1] at f
  rw [q2] at sin
  have t0 : ((p : Nat) : Int).toNat = p := rfl
  have t2 : ((p : Int) + 2).toNat = p + 2 := by omega
  have b1 : (F.take p).length + [F.getD (p + 1) 0].length ≤ 1000000 := by rw [List.length_take, List.length_singleton]; omega
  have b2 : (F.take p ++ [F.getD (p + 1) 0]).length + [F.getD p 0].length ≤ 1000000 := by rw [List.length_append, List.length_take, List.length_singleton, List.length_singleton]; omega
  have b3 : (F.take p ++ [F.getD (p + 1) 0] ++ [F.getD p 0]).length + (F.drop (p + 2)).length ≤ 1000000 := by rw [List.length_append, List.length_append, List.length_take, List.length_singleton, List.length_singleton, List.length_drop]; omega
  have ex : F.take p ++ [F.getD (p + 1) 0] ++ [F.getD p 0] ++ F.drop (p + 2) = exch F p := rfl
  have fg : sT [48, 49, 50, 51, 52, 53, 54, 55, 56, 57] = sT figs := rfl
  have m0 := mem_figs.mp hx
  have m1 := mem_figs.mp hy
  have hr : ∀ l, rcv .indexS (sT l) = true := fun _ => rfl
  generalize tI (quiL F) = QL at *
  generalize exch F p = EX at *
  clear q1 q2 e1
  generalize hA : F.getD p 0 = A at *
  generalize hB : F.getD (p + 1) 0 = B at *
  generalize hT : F.take p = TK at *
  generalize hD : F.drop (p + 2) = DR at *
  have hab : ∀ v : Int, v = (A : Int) - 48 - ((B : Int) - 48) → ((if v < 0 then -v else v) = 5 ↔ ((A : Int) - (B : Int) = 5 ∨ (B : Int) - (A : Int) = 5)) := fun v hv => by split <;> omega
  have hab := hab _ rfl
  by_cases q : (A : Int) - (B : Int) = 5 ∨ (B : Int) - (A : Int) = 5
  · have g1 : decide ((A : Int) - (B : Int) = 5 ∨ (B : Int) - (A : Int) = 5) = true := decide_eq_true q
    have g2 : decide ((A : Int) - (B : Int) = 5 ∨ (B : Int) - (A : Int) = 5 ∨ A = B) = true := decide_eq_true (by omega)
    have g3 := hab.mpr q
    rw [g1] at sin
    rw [g2] at f
    refine ⟨.val (sT [B]), .val (sT [A]), .val (.bool true), .val (sT EX), ?_⟩
    simp (disch := (first | assumption | omega | (simp only [LEN] <;> omega) | decide)) only [B_law_k04_3, EV0, EV1, EV2, EV3, EV4, List.getElem?_cons_zero, List.getElem?_cons_succ, List.set_cons_zero, List.set_cons_succ, Res.ofO_some, bop, cop, bfn, mtd, wipeR, Tg.slots, Nat.zero_add, Nat.add_zero, eq_self, decide_true, decide_false, ite_true, ite_false, x0', x1', fg, hr, i0, i1, abs_i, g3, cut_hi, cut_lo, t0, t2, hT, hD, ex, f, s, sin, ne_b, Bool.not_true]
  · have g1 : decide ((A : Int) - (B : Int) = 5 ∨ (B : Int) - (A : Int) = 5) = false := decide_eq_false q
    have g3 : ¬ (if (A : Int) - 48 - ((B : Int) - 48) < 0 then -((A : Int) - 48 - ((B : Int) - 48)) else (A : Int) - 48 - ((B : Int) - 48)) = 5 := fun z => q (hab.mp z)
    rw [g1] at sin
    refine ⟨.val (sT [B]), .val (sT [A]), .val (.bool false), .val (sT EX), ?_⟩
    by_cases q3 : A = B
    · have g2 : decide ((A : Int) - (B : Int) = 5 ∨ (B : Int) - (A : Int) = 5 ∨ A = B) = true := decide_eq_true (by omega)
      rw [g2] at f
      subst q3
      simp (disch := (first | assumption | omega | (simp only [LEN] <;> omega) | decide)) only [B_law_k04_3, EV0, EV1, EV2, EV3, EV4, List.getElem?_cons_zero, List.getElem?_cons_succ, List.set_cons_zero, List.set_cons_succ, Res.ofO_some, bop, cop, bfn, mtd, wipeR, Tg.slots, Nat.zero_add, Nat.add_zero, eq_self, decide_true, decide_false, ite_true, ite_false, x0', x1', fg, hr, i0, i1, abs_i, g3, cut_hi, cut_lo, t0, t2, hT, hD, ex, f, s, sin, ne_b, Bool.not_true]
    · have g2 : decide ((A : Int) - (B : Int) = 5 ∨ (B : Int) - (A : Int) = 5 ∨ A = B) = false := decide_eq_false (by omega)
      rw [g2] at f
      simp (disch := (first | assumption | omega | (simp only [LEN] <;> omega) | decide)) only [B_law_k04_3, EV0, EV1, EV2, EV3, EV4, List.getElem?_cons_zero, List.getElem?_cons_succ, List.set_cons_zero, List.set_cons_succ, Res.ofO_some, bop, cop, bfn, mtd, wipeR, Tg.slots, Nat.zero_add, Nat.add_zero, eq_self, decide_true, decide_false, ite_true, ite_false, x0', x1', fg, hr, i0, i1, abs_i, g3, cut_hi, cut_lo, t0, t2, hT, hD, ex, f, s, sin, ne_b, q3, Bool.not_true]
theorem nx_of {o : Out} {Q : List Sl → Prop} (h : Nx o Q) : ∃ ρ, o = .nx ρ ∧ Q ρ := by
  cases o with
  | nx ρ => exact ⟨ρ, rfl, h⟩
  | _ => exact h.elim
theorem k04_loopA {n : Nat} (hn : 4 ≤ n) {F : List Nat} (hF : AllF F) (hw : wgt F % 10 = 0) (hl : F.length ≤ 100) (x0 x1 x2 x3 x5 x6 x7 x8 x9 x10 x11 : Sl) :
    ∃ y5 y8 y11, forGo (forF U (callD U n) (.one 5) B_law_k04_2) ((List.range F.length).map fun (j : Nat) => PyData.int (j : Int)) [x0, x1, x2, x3, .val (sT F), x5, x6, x7, x8, x9, x10, x11] = .nx [x0, x1, x2, x3, .val (sT F), y5, x6, x7, y8, x9, x10, y11] := by
  have h := for_pre (f := forF U (callD U n) (.one 5) B_law_k04_2) (enc := fun (j : Nat) => PyData.int (j : Int)) (fun pre ρ => ∃ y5 y8 y11, ρ = [x0, x1, x2, x3, .val (sT F), y5, x6, x7, y8, x9, x10, y11]) (List.range F.length) (ρ := [x0, x1, x2, x3, .val (sT F), x5, x6, x7, x8, x9, x10, x11]) ⟨x5, x8, x11, rfl⟩ ?_
  · obtain ⟨ρ, e, y5, y8, y11, e2⟩ := nx_of h
    exact ⟨y5, y8, y11, by rw [e, e2]⟩
  · rintro pre p post e ρ ⟨y5, y8, y11, rfl⟩
    have hp : p < F.length := List.mem_range.mp (by rw [e]; simp)
    obtain ⟨z8, z11, e2⟩ := k04_two (n := n) hn hF hw hl hp x0 x1 x2 x3 y5 x6 x7 y8 x9 x10 y11
    exact nx_exs ⟨_, e2, .val (.int (p : Int)), z8, z11, rfl⟩
theorem k04_loopB {n : Nat} (hn : 4 ≤ n) {F : List Nat} (hF : AllF F) (hw : wgt F % 10 = 0) (hl : F.length ≤ 100) (x0 x1 x2 x3 x5 x6 x7 x8 x9 x10 x11 : Sl) :
    ∃ y5 y6 y8 y9 y10, forGo (forF U (callD U n) (.one 5) B_law_k04_3) ((List.range (F.length - 1)).map fun (j : Nat) => PyData.int (j : Int)) [x0, x1, x2, x3, .val (sT F), x5, x6, x7, x8, x9, x10, x11] = .nx [x0, x1, x2, x3, .val (sT F), y5, y6, x7, y8, y9, y10, x11] := by
  have h := for_pre (f := forF U (callD U n) (.one 5) B_law_k04_3) (enc := fun (j : Nat) => PyData.int (j : Int)) (fun pre ρ => ∃ y5 y6 y8 y9 y10, ρ = [x0, x1, x2, x3, .val (sT F), y5, y6, x7, y8, y9, y10, x11]) (List.range (F.length - 1)) (ρ := [x0, x1, x2, x3, .val (sT F), x5, x6, x7, x8, x9, x10, x11]) ⟨x5, x6, x8, x9, x10, rfl⟩ ?_
  · obtain ⟨ρ, e, y5, y6, y8, y9, y10, e2⟩ := nx_of h
    exact ⟨y5, y6, y8, y9, y10, by rw [e, e2]⟩
  · rintro pre p post e ρ ⟨y5, y6, y8, y9, y10, rfl⟩
    have hp : p < F.length - 1 := List.mem_range.mp (by rw [e]; simp)
    obtain ⟨z6, z8, z9, z10, e2⟩ := k04_three (n := n) hn hF hw hl hp x0 x1 x2 x3 y5 y6 x7 y8 y9 y10 x11
    exact nx_exs ⟨_, e2, .val (.int (p : Int)), z6, z8, z9, z10, rfl⟩
theorem isn_t : cIsNot (.bool true) (.bool true) = some (.bool false) := rfl
theorem k04_four {n : Nat} (hn : 5 ≤ n) (ns : List Int) {k : Nat} (hk : k < 16) (x1 x2 x3 x4 x5 x6 x7 x8 x9 x10 x11 : Sl) :
    ∃ y2 y3 y4 y5 y6 y7 y8 y9 y10 y11, forF U (callD U n) (.one 1) B_law_k04_4 [.val (scrD ns), x1, x2, x3, x4, x5, x6, x7, x8, x9, x10, x11] (.int (k : Int)) = .nx [.val (scrD ns), .val (.int (k : Int)), y2, y3, y4, y5, y6, y7, y8, y9, y10, y11] := by
  have a := cell_ok (n := n) (by omega) ns (k := (k : Int) % 9) (by omega)
  have a9 := cell_ok (n := n) (by omega) ns (k := 9) (by decide)
  generalize cellAt ns ((k : Int) % 9) = C0 at *
  generalize cellAt ns 9 = C9 at *
  generalize hc : C0 + 31 * (k : Int) = c
  have m1 := mix_ok (n := n) (by omega) (c := c) (p := 9829) (m := 16) (by decide) (by decide) (by decide)
  have m2 := mix_nn (c := c) (p := 9829) (m := 16) (by decide)
  have m3 := mix_lt (c := c) (p := 9829) (m := 16) (by decide)
  have g1 := lfigs_ok (n := n) (by omega) (c := c) (m := 1 + mix c 9829 16) (by omega) (by omega)
  have gl := drawF_len c (1 + mix c 9829 16)
  have ga := drawF_all c (1 + mix c 9829 16)
  generalize drawF c (1 + mix c 9829 16) = G at *
  have hG : G.length ≤ 17 := by omega
  have k1 := check_ok (n := n) (by omega) ga (by omega)
  have kc := chk_mem G
  have FA : AllF (G ++ [chk G]) := ga.app fun x hx => by rw [List.mem_singleton.mp hx]; exact kc
  have FW := chk_fits G
  have F1 := fits_ok (n := n) (by omega) FA
  rw [decide_eq_true FW] at F1
  have FL : (G ++ [chk G]).length = G.length + 1 := by rw [List.length_append, List.length_singleton]
  -- the other ones ahead
  have hm : 0 ≤ 1 + 2 * ((k : Int) % 4) ∧ 1 + 2 * ((k : Int) % 4) ≤ 7 ∧ (1 + 2 * ((k : Int) % 4)).toNat % 2 = 1 := by omega
  have g2 := lfigs_ok (n := n) (by omega) (c := C9 + 7 * (k : Int)) (m := 1 + 2 * ((k : Int) % 4)) (by omega) (by omega)
  have gl2 := drawF_len (C9 + 7 * (k : Int)) (1 + 2 * ((k : Int) % 4))
  have ga2 := drawF_all (C9 + 7 * (k : Int)) (1 + 2 * ((k : Int) % 4))
  generalize drawF (C9 + 7 * (k : Int)) (1 + 2 * ((k : Int) % 4)) = O at *
  have k2 := check_ok (n := n) (by omega) ga2 (by omega)
  have kc2 := chk_mem O
  have OA : AllF (O ++ [chk O]) := ga2.app fun x hx => by rw [List.mem_singleton.mp hx]; exact kc2
  have OW := chk_fits O
  have OL : (O ++ [chk O]).length = O.length + 1 := by rw [List.length_append, List.length_singleton]
  -- '0' ahead
  have ZA : AllF ([48] ++ (G ++ [chk G])) := fig0.app FA
  have Z1 := fits_ok (n := n) (by omega) ZA
  rw [show wgt ([48] ++ (G ++ [chk G])) = wgt (G ++ [chk G]) from wgt_nought _, decide_eq_true FW] at Z1
  have ZZA : AllF ([48, 48] ++ G) := (fig0.app fig0).app ga
  have k3 := check_ok (n := n) (by omega) ZZA (by rw [List.length_append]; simp only [List.length_cons, List.length_nil]; omega)
  have kc3 := chk_mem ([48, 48] ++ G)
  have Z2 := fits_ok (n := n) (by omega) (l := ([48, 48] ++ G) ++ [chk ([48, 48] ++ G)]) (ZZA.app fun x hx => by rw [List.mem_singleton.mp hx]; exact kc3)
  rw [decide_eq_true (chk_fits ([48, 48] ++ G))] at Z2
  have kk : chk ([48, 48] ++ G) = chk G := chk_nought G
  rw [kk] at k3 Z2
  have nn : ∀ l : List Nat, cNe (sT l) (sT l) = some (.bool false) := fun l => by rw [ne_sT]; simp
  obtain ⟨w5, w8, w11, LA⟩ := k04_loopA (n := n) (by omega) FA FW (by omega) (.val (scrD ns)) (.val (.int (k : Int))) (.val (.int c)) (.val (sT G)) x5 x6 x7 x8 x9 x10 x11
  obtain ⟨z5, z6, z8, z9, z10, LB⟩ := k04_loopB (n := n) (by omega) FA FW (by omega) (.val (scrD ns)) (.val (.int (k : Int))) (.val (.int c)) (.val (sT G)) w5 x6 x7 w8 x9 x10 w11
  have hA2 : (G ++ [chk G]).length % 2 = 0 → callD U n 27 [sT ((O ++ [chk O]) ++ (G ++ [chk G]))] = .ok (.bool true) := fun he => by
    have f := fits_ok (n := n) (by omega) (OA.app FA)
    rw [wgt_ahead he, decide_eq_true (show (wgt (G ++ [chk G]) + wgt (O ++ [chk O])) % 10 = 0 by omega)] at f
    exact f
  have tl : ((G ++ [chk G]).length : Int).toNat = (G ++ [chk G]).length := rfl
  have tl1 : (((G ++ [chk G]).length : Int) - 1).toNat = (G ++ [chk G]).length - 1 := by omega
  have hle : (G.length : Int) + 1 = ((G ++ [chk G]).length : Int) := by omega
  have hO : O.length ≤ 7 := by omega
  clear kc kc2 kc3 ZZA ZA OW FW gl gl2 ga ga2 m2 m3 hm
  generalize hCG : chk G = CG at *
  generalize hCO : chk O = CO at *
  have b0 : (O ++ [CO] ++ (G ++ [CG])).length ≤ 1000000 := by rw [List.length_append]; omega
  have b1 : ([48] ++ (G ++ [CG])).length ≤ 1000000 := by rw [List.length_append]; simp only [List.length_cons, List.length_nil]; omega
  have b2 : ([48, 48] ++ G).length + [CG].length ≤ 1000000 := by rw [List.length_append]; simp only [List.length_cons, List.length_nil]; omega
  generalize hFF : G ++ [CG] = FF at *
  generalize hOO : O ++ [CO] = OO at *
  have b3 : OO.length + FF.length ≤ 1000000 := by rw [List.length_append] at b0; omega
  have mod2 : ((FF.length : Int) % 2 = 0) ↔ FF.length % 2 = 0 := by omega
  refine ⟨.val (.int c), .val (sT G), .val (sT FF), z5, .val (sT O), .val (sT OO), z8, z9, z10, w11, ?_⟩
  by_cases he : FF.length % 2 = 0
  · have h2 := hA2 he
    have he' : (FF.length : Int) % 2 = 0 := mod2.mpr he
    simp (disch := (first | assumption | omega | (simp only [LEN] <;> omega) | decide)) only [B_law_k04_4, EV0, EV1, EV2, EV3, EV4, List.getElem?_cons_zero, List.getElem?_cons_succ, List.set_cons_zero, List.set_cons_succ, Res.ofO_some, bop, cop, bfn, mtd, wipeR, Tg.slots, Nat.zero_add, Nat.add_zero, eq_self, decide_true, decide_false, ite_true, ite_false, a, a9, hc, m1, g1, k1, hFF, F1, isn_t, hle, LA, LB, tl, tl1, g2, k2, hOO, he', h2, Z1, k3, Z2, nn]
  · have he' : ¬ (FF.length : Int) % 2 = 0 := fun z => he (mod2.mp z)
    simp (disch := (first | assumption | omega | (simp only [LEN] <;> omega) | decide)) only [B_law_k04_4, EV0, EV1, EV2, EV3, EV4, List.getElem?_cons_zero, List.getElem?_cons_succ, List.set_cons_zero, List.set_cons_succ, Res.ofO_some, bop, cop, bfn, mtd, wipeR, Tg.slots, Nat.zero_add, Nat.add_zero, eq_self, decide_true, decide_false, ite_true, ite_false, a, a9, hc, m1, g1, k1, hFF, F1, isn_t, hle, LA, LB, tl, tl1, g2, k2, hOO, he', Z1, k3, Z2, nn]
theorem law_k04_ok (ns : List Int) (_ : ns.length ≤ 63) : callD U 20 36 [scrD ns] = .ok (.bool true) := by
  show callD U (19 + 1) _ _ = _
  rw [run_law_k04]
  simp (disch := (first | assumption | omega | (simp only [LEN] <;> omega) | decide)) only [b_law_k04, EV0, EV1, EV2, EV3, EV4, List.getElem?_cons_zero, List.getElem?_cons_succ, List.set_cons_zero, List.set_cons_succ, Res.ofO_some, bop, cop, bfn, mtd, wipeR, Tg.slots, Nat.zero_add, Nat.add_zero, eq_self, decide_true, decide_false, ite_true, ite_false]
  refine seq_fin (for_pre (fun pre ρ => ∃ x1 x2 x3 x4 x5 x6 x7 x8 x9 x10 x11, ρ = [.val (scrD ns), x1, x2, x3, x4, x5, x6, x7, x8, x9, x10, x11]) (List.range 16) ⟨_, _, _, _, _, _, _, _, _, _, _, rfl⟩ ?_) ?_
  · rintro pre k post e ρ ⟨x1, x2, x3, x4, x5, x6, x7, x8, x9, x10, x11, rfl⟩
    have hk : k < 16 := List.mem_range.mp (by rw [e]; simp)
    obtain ⟨y2, y3, y4, y5, y6, y7, y8, y9, y10, y11, e2⟩ := k04_four (n := 19) (by omega) ns hk x1 x2 x3 x4 x5 x6 x7 x8 x9 x10 x11
    exact nx_exs ⟨_, e2, .val (.int (k : Int)), y2, y3, y4, y5, y6, y7, y8, y9, y10, y11, rfl⟩
  · rintro ρ ⟨x1, x2, x3, x4, x5, x6, x7, x8, x9, x10, x11, rfl⟩
    simp (disch := (first | assumption | omega | (simp only [LEN] <;> omega) | decide)) only [EV0, EV1, EV2, EV3, EV4, List.getElem?_cons_zero, List.getElem?_cons_succ, List.set_cons_zero, List.set_cons_succ, Res.ofO_some, bop, cop, bfn, mtd, wipeR, Tg.slots, Nat.zero_add, Nat.add_zero, eq_self, decide_true, decide_false, ite_true, ite_false]
end Bg

set_option Elab.async false
set_option linter.all false
set_option maxRecDepth 100000
set_option maxHeartbeats 4000000
/-! mod_check -/
namespace Bg
open PySem PySem.Spec PyProof.Rows L2
def mck (l : List Int) (b : Int) : Int := (l.getD 0 0 + (l.zipIdx.map fun p => (p.2 : Int) * p.1).sum) % b
theorem mod_ok {n : Nat} (hn : 1 ≤ n) {l : List Int} {b : Int} (h0 : l ≠ []) (hb : 0 < b) (hl : l.length ≤ 1000) : callD U n 31 [tI l, .int b] = .ok (.int (mck l b)) := by
  obtain ⟨n, rfl, hn⟩ := lev hn
  rw [run_mod_check]
  have hlen : 0 < l.length := List.length_pos_iff.mpr h0
  have x0 : ixD (tI l) (.int 0) = some (.int (l.getD 0 0)) := ixd_tI (by omega) (by omega)
  simp (disch := (first | assumption | omega | (simp only [LEN] <;> omega) | decide)) only [b_mod_check, EV0, EV1, EV2, EV3, EV4, List.getElem?_cons_zero, List.getElem?_cons_succ, List.set_cons_zero, List.set_cons_succ, Res.ofO_some, bop, cop, bfn, mtd, wipeR, Tg.slots, Nat.zero_add, Nat.add_zero, eq_self, decide_true, decide_false, ite_true, ite_false, x0]
  rw [lc_m PyData.int (fun (p : Int × Nat) => (p.2 : Int) * p.1)]
  · simp (disch := (first | assumption | omega | (simp only [LEN] <;> omega) | decide)) only [EV0, EV1, EV2, EV3, EV4, List.getElem?_cons_zero, List.getElem?_cons_succ, List.set_cons_zero, List.set_cons_succ, Res.ofO_some, bop, cop, bfn, mtd, wipeR, Tg.slots, Nat.zero_add, Nat.add_zero, eq_self, decide_true, decide_false, ite_true, ite_false]
    rfl
  · rintro ⟨v, k⟩ hp
    have hk : k < l.length := by
      have := List.snd_lt_of_mem_zipIdx hp
      simpa using this
    simp (disch := (first | assumption | omega | (simp only [LEN] <;> omega) | decide)) only [EV0, EV1, EV2, EV3, EV4, List.getElem?_cons_zero, List.getElem?_cons_succ, List.set_cons_zero, List.set_cons_succ, Res.ofO_some, bop, cop, bfn, mtd, wipeR, Tg.slots, Nat.zero_add, Nat.add_zero, eq_self, decide_true, decide_false, ite_true, ite_false]
end Bg

set_option Elab.async false
set_option linter.all false
set_option maxRecDepth 100000
set_option maxHeartbeats 1000000
/-! k26 -/
namespace Bg
open PySem PySem.Spec PyProof.Rows L2
def sumI (l : List Int) (k : Nat) : Int := ((l.zipIdx k).map fun p => (p.2 : Int) * p.1).sum
theorem mck_eq (l : List Int) (b : Int) : mck l b = (l.getD 0 0 + sumI l 0) % b := rfl
theorem sumI_add : ∀ (v o : List Int) (k : Nat), v.length = o.length → sumI ((v.zip o).map fun p => p.1 + p.2) k = sumI v k + sumI o k
  | [], [], k, _ => rfl
  | [], _ :: _, k, h => by cases h
  | _ :: _, [], k, h => by cases h
  | x :: v, y :: o, k, h => by
    have ih := sumI_add v o (k + 1) (by simpa using h)
    unfold sumI at *
    simp only [List.zip_cons_cons, List.map_cons, List.zipIdx_cons, List.sum_cons, ih]
    rw [Int.mul_add]
    omega
theorem mck_add {v o : List Int} (b : Int) (h : v.length = o.length) (hv : v ≠ []) : mck ((v.zip o).map fun p => p.1 + p.2) b = (mck v b + mck o b) % b := by
  rw [mck_eq, mck_eq, mck_eq, sumI_add v o 0 h, ← Int.add_emod]
  congr 1
  cases v with
  | nil => exact absurd rfl hv
  | cons x v =>
    cases o with
    | nil => cases h
    | cons y o =>
      simp only [List.zip_cons_cons, List.map_cons, List.getD_cons_zero]
      omega
theorem mck_one (x b : Int) : mck [x] b = x % b := by
  rw [mck_eq]
  simp [sumI]
theorem mck_snoc {v : List Int} (b : Int) (hv : v ≠ []) : mck (v ++ [1]) b = (mck v b + (v.length : Int)) % b := by
  rw [mck_eq, mck_eq, Int.emod_add_emod]
  congr 1
  have e : (v ++ [1]).getD 0 0 = v.getD 0 0 := by
    cases v with
    | nil => exact absurd rfl hv
    | cons x v => rfl
  rw [e]
  unfold sumI
  rw [List.zipIdx_append, List.map_append, List.sum_append]
  simp
  omega
theorem k26_one {n : Nat} (hn : 4 ≤ n) {F : List Nat} (hF : AllF F) (hw : wgt F % 10 = 0) (hl : F.length ≤ 100) {p : Nat} (hp : p < F.length) (c : Int) (x0 x1 x3 x4 x6 x7 x8 x9 x10 x11 x12 x13 x14 : Sl) :
    ∃ y12, forF U (callD U n) (.one 6) B_law_k26_1 [x0, x1, .val (.int c), x3, x4, .val (sT F), x6, x7, x8, x9, x10, x11, x12, x13, x14] (.int (p : Int)) = .nx [x0, x1, .val (.int c), x3, x4, .val (sT F), .val (.int (p : Int)), x7, x8, x9, x10, x11, y12, x13, x14] := by
  have hs := split_at hp
  have hc : F.getD p 0 ∈ figs := hF _ (getD_in hp)
  have hw' := hw
  rw [hs] at hw'
  have a := lacking_ok (n := n) (by omega) (hF.take p) (hF.drop (p + 1)) hc hw' (by rw [List.length_take, List.length_drop]; omega)
  have ee : ∀ d, F.take p ++ d :: F.drop (p + 1) = F.take p ++ [d] ++ F.drop (p + 1) := fun d => by simp
  rw [ee] at a
  have x := ixd_getD hp
  have ic := int_c hc
  have t0 : ((p : Nat) : Int).toNat = p := rfl
  have t1 : ((p : Int) + 1).toNat = p + 1 := by omega
  have m1 := mix_ok (n := n) (by omega) (c := c + (p : Int)) (p := 9377) (m := 9) (by decide) (by decide) (by decide)
  have m2 := mix_nn (c := c + (p : Int)) (p := 9377) (m := 9) (by decide)
  have m3 := mix_lt (c := c + (p : Int)) (p := 9377) (m := 9) (by decide)
  have b1 : ∀ d : Nat, (F.take p).length + [d].length ≤ 1000000 := fun d => by rw [List.length_take, List.length_singleton]; omega
  have b2 : ∀ d : Nat, (F.take p ++ [d]).length + (F.drop (p + 1)).length ≤ 1000000 := fun d => by rw [List.length_append, List.length_take, List.length_singleton, List.length_drop]; omega
  have hcm := mem_figs.mp hc
  generalize hM : mix (c + (p : Int)) 9377 9 = M at *
  have r0 : 0 ≤ ((F.getD p 0 : Int) - 48 + 1 + M) % 10 := by omega
  have r1 : ((F.getD p 0 : Int) - 48 + 1 + M) % 10 < 10 := by omega
  have ix := ix_figs r0 r1
  have hne : 48 + (((F.getD p 0 : Int) - 48 + 1 + M) % 10).toNat ≠ F.getD p 0 := by omega
  have hdm : 48 + (((F.getD p 0 : Int) - 48 + 1 + M) % 10).toNat ∈ figs := mem_figs.mpr (by omega)
  generalize hR : ((F.getD p 0 : Int) - 48 + 1 + M) % 10 = RR at *
  generalize 48 + RR.toNat = OD at *
  have e := mid_fits hc hdm hw'
  rw [ee] at e
  have all : AllF (F.take p ++ [OD] ++ F.drop (p + 1)) := ((hF.take p).app fun c hc => by rw [List.mem_singleton.mp hc]; exact hdm).app (hF.drop _)
  have f := fits_ok (n := n) (by omega) all
  rw [decide_eq_false (fun z => hne (e.mp z))] at f
  have fg : sT [48, 49, 50, 51, 52, 53, 54, 55, 56, 57] = sT figs := rfl
  have nn : ∀ l : List Nat, cNe (sT l) (sT l) = some (.bool false) := fun l => by rw [ne_sT]; simp
  have b1a := b1 63
  have b2a := b2 63
  have b1b := b1 OD
  have b2b := b2 OD
  clear ee hw' hs all e b1 b2
  refine ⟨.val (sT [OD]), ?_⟩
  have isf : cIsNot (.bool false) (.bool false) = some (.bool false) := rfl
  generalize F.getD p 0 = C at *
  generalize hT : F.take p = TK at *
  generalize hD : F.drop (p + 1) = DR at *
  simp (disch := (first | assumption | omega | (simp only [LEN] <;> omega) | decide)) only [B_law_k26_1, EV0, EV1, EV2, EV3, EV4, List.getElem?_cons_zero, List.getElem?_cons_succ, List.set_cons_zero, List.set_cons_succ, Res.ofO_some, bop, cop, bfn, mtd, wipeR, Tg.slots, Nat.zero_add, Nat.add_zero, eq_self, decide_true, decide_false, ite_true, ite_false, cut_hi, cut_lo, t0, t1, hT, hD, a, x, nn, ic, m1, hR, fg, ix, f, isf]
theorem k26_two {n : Nat} (hn : 4 ≤ n) {F : List Nat} (hF : AllF F) (hw : wgt F % 10 = 0) (hl : F.length ≤ 100) {p : Nat} (hp : p < F.length - 1) (x0 x1 x2 x3 x4 x6 x8 x9 x10 x11 x12 x13 x14 : Sl) :
    ∃ y12 y13 y14, forF U (callD U n) (.one 6) B_law_k26_2 [x0, x1, x2, x3, x4, .val (sT F), x6, .val (tI (quiL F)), x8, x9, x10, x11, x12, x13, x14] (.int (p : Int)) = .nx [x0, x1, x2, x3, x4, .val (sT F), .val (.int (p : Int)), .val (tI (quiL F)), x8, x9, x10, x11, y12, y13, y14] := by
  have x0' := ixd_getD (l := F) (k := p) (by omega)
  have x1' := ixd_getD (l := F) (k := p + 1) (by omega)
  rw [show ((p + 1 : Nat) : Int) = (p : Int) + 1 by omega] at x1'
  have hx : F.getD p 0 ∈ figs := hF _ (getD_in (by omega))
  have hy : F.getD (p + 1) 0 ∈ figs := hF _ (getD_in (by omega))
  have i0 := int_c hx
  have i1 := int_c hy
  obtain ⟨q1, q2⟩ := qui_five hF hw (k := p) (by omega)
  have sin := qui_in (l := F) (k := p) hp
  have f := fits_ok (n := n) (by omega) (exch_all hF (k := p) (by omega))
  have e1 : decide (wgt (exch F p) % 10 = 0) = fitB (exch F p) := rfl
  rw [e1, q1] at f
  rw [q2] at sin
  have t0 : ((p : Nat) : Int).toNat = p := rfl
  have t2 : ((p : Int) + 2).toNat = p + 2 := by omega
  have b1 : (F.take p).length + [F.getD (p + 1) 0].length ≤ 1000000 := by rw [List.length_take, List.length_singleton]; omega
  have b2 : (F.take p ++ [F.getD (p + 1) 0]).length + [F.getD p 0].length ≤ 1000000 := by rw [List.length_append, List.length_take, List.length_singleton, List.length_singleton]; omega
  have b3 : (F.take p ++ [F.getD (p + 1) 0] ++ [F.getD p 0]).length + (F.drop (p + 2)).length ≤ 1000000 := by rw [List.length_append, List.length_append, List.length_take, List.length_singleton, List.length_singleton, List.length_drop]; omega
  have ex : F.take p ++ [F.getD (p + 1) 0] ++ [F.getD p 0] ++ F.drop (p + 2) = exch F p := rfl
  have m0 := mem_figs.mp hx
  have m1 := mem_figs.mp hy
  generalize tI (quiL F) = QL at *
  generalize exch F p = EX at *
  clear q1 q2 e1
  generalize hA : F.getD p 0 = A at *
  generalize hB : F.getD (p + 1) 0 = B at *
  generalize hT : F.take p = TK at *
  generalize hD : F.drop (p + 2) = DR at *
  have hab : ∀ v : Int, v = (A : Int) - 48 - ((B : Int) - 48) → ((if v < 0 then -v else v) = 5 ↔ ((A : Int) - (B : Int) = 5 ∨ (B : Int) - (A : Int) = 5)) := fun v hv => by split <;> omega
  have hab := hab _ rfl
  refine ⟨.val (sT [B]), .val (sT EX), .val (sT [A]), ?_⟩
  by_cases q : (A : Int) - (B : Int) = 5 ∨ (B : Int) - (A : Int) = 5
  · have g1 : decide ((A : Int) - (B : Int) = 5 ∨ (B : Int) - (A : Int) = 5) = true := decide_eq_true q
    have g2 : decide ((A : Int) - (B : Int) = 5 ∨ (B : Int) - (A : Int) = 5 ∨ A = B) = true := decide_eq_true (by omega)
    have g3 := hab.mpr q
    have g4 : ¬ A = B := by omega
    rw [g1] at sin
    rw [g2] at f
    simp (disch := (first | assumption | omega | (simp only [LEN] <;> omega) | decide)) only [B_law_k26_2, EV0, EV1, EV2, EV3, EV4, List.getElem?_cons_zero, List.getElem?_cons_succ, List.set_cons_zero, List.set_cons_succ, Res.ofO_some, bop, cop, bfn, mtd, wipeR, Tg.slots, Nat.zero_add, Nat.add_zero, eq_self, decide_true, decide_false, ite_true, ite_false, x0', x1', i0, i1, abs_i, g3, g4, cut_hi, cut_lo, t0, t2, hT, hD, ex, f, sin, ne_b, Bool.not_true]
  · have g1 : decide ((A : Int) - (B : Int) = 5 ∨ (B : Int) - (A : Int) = 5) = false := decide_eq_false q
    have g3 : ¬ (if (A : Int) - 48 - ((B : Int) - 48) < 0 then -((A : Int) - 48 - ((B : Int) - 48)) else (A : Int) - 48 - ((B : Int) - 48)) = 5 := fun z => q (hab.mp z)
    rw [g1] at sin
    by_cases q3 : A = B
    · clear f
      subst q3
      simp (disch := (first | assumption | omega | (simp only [LEN] <;> omega) | decide)) only [B_law_k26_2, EV0, EV1, EV2, EV3, EV4, List.getElem?_cons_zero, List.getElem?_cons_succ, List.set_cons_zero, List.set_cons_succ, Res.ofO_some, bop, cop, bfn, mtd, wipeR, Tg.slots, Nat.zero_add, Nat.add_zero, eq_self, decide_true, decide_false, ite_true, ite_false, x0', x1', i0, i1, abs_i, g3, cut_hi, cut_lo, t0, t2, hT, hD, ex, sin, ne_b, Bool.not_true]
    · have g2 : decide ((A : Int) - (B : Int) = 5 ∨ (B : Int) - (A : Int) = 5 ∨ A = B) = false := decide_eq_false (by omega)
      rw [g2] at f
      simp (disch := (first | assumption | omega | (simp only [LEN] <;> omega) | decide)) only [B_law_k26_2, EV0, EV1, EV2, EV3, EV4, List.getElem?_cons_zero, List.getElem?_cons_succ, List.set_cons_zero, List.set_cons_succ, Res.ofO_some, bop, cop, bfn, mtd, wipeR, Tg.slots, Nat.zero_add, Nat.add_zero, eq_self, decide_true, decide_false, ite_true, ite_false, x0', x1', i0, i1, abs_i, g3, cut_hi, cut_lo, t0, t2, hT, hD, ex, f, sin, ne_b, q3, Bool.not_true]
theorem k26_loopA {n : Nat} (hn : 4 ≤ n) {F : List Nat} (hF : AllF F) (hw : wgt F % 10 = 0) (hl : F.length ≤ 100) (c : Int) (x0 x1 x3 x4 x6 x7 x8 x9 x10 x11 x12 x13 x14 : Sl) :
    ∃ y6 y12, forGo (forF U (callD U n) (.one 6) B_law_k26_1) ((List.range F.length).map fun (j : Nat) => PyData.int (j : Int)) [x0, x1, .val (.int c), x3, x4, .val (sT F), x6, x7, x8, x9, x10, x11, x12, x13, x14] = .nx [x0, x1, .val (.int c), x3, x4, .val (sT F), y6, x7, x8, x9, x10, x11, y12, x13, x14] := by
  have h := for_pre (f := forF U (callD U n) (.one 6) B_law_k26_1) (enc := fun (j : Nat) => PyData.int (j : Int)) (fun pre ρ => ∃ y6 y12, ρ = [x0, x1, .val (.int c), x3, x4, .val (sT F), y6, x7, x8, x9, x10, x11, y12, x13, x14]) (List.range F.length) (ρ := [x0, x1, .val (.int c), x3, x4, .val (sT F), x6, x7, x8, x9, x10, x11, x12, x13, x14]) ⟨x6, x12, rfl⟩ ?_
  · obtain ⟨ρ, e, y6, y12, e2⟩ := nx_of h
    exact ⟨y6, y12, by rw [e, e2]⟩
  · rintro pre p post e ρ ⟨y6, y12, rfl⟩
    have hp : p < F.length := List.mem_range.mp (by rw [e]; simp)
    obtain ⟨z12, e2⟩ := k26_one (n := n) hn hF hw hl hp c x0 x1 x3 x4 y6 x7 x8 x9 x10 x11 y12 x13 x14
    exact nx_exs ⟨_, e2, .val (.int (p : Int)), z12, rfl⟩
theorem k26_loopB {n : Nat} (hn : 4 ≤ n) {F : List Nat} (hF : AllF F) (hw : wgt F % 10 = 0) (hl : F.length ≤ 100) (x0 x1 x2 x3 x4 x6 x8 x9 x10 x11 x12 x13 x14 : Sl) :
    ∃ y6 y12 y13 y14, forGo (forF U (callD U n) (.one 6) B_law_k26_2) ((List.range (F.length - 1)).map fun (j : Nat) => PyData.int (j : Int)) [x0, x1, x2, x3, x4, .val (sT F), x6, .val (tI (quiL F)), x8, x9, x10, x11, x12, x13, x14] = .nx [x0, x1, x2, x3, x4, .val (sT F), y6, .val (tI (quiL F)), x8, x9, x10, x11, y12, y13, y14] := by
  have h := for_pre (f := forF U (callD U n) (.one 6) B_law_k26_2) (enc := fun (j : Nat) => PyData.int (j : Int)) (fun pre ρ => ∃ y6 y12 y13 y14, ρ = [x0, x1, x2, x3, x4, .val (sT F), y6, .val (tI (quiL F)), x8, x9, x10, x11, y12, y13, y14]) (List.range (F.length - 1)) (ρ := [x0, x1, x2, x3, x4, .val (sT F), x6, .val (tI (quiL F)), x8, x9, x10, x11, x12, x13, x14]) ⟨x6, x12, x13, x14, rfl⟩ ?_
  · obtain ⟨ρ, e, y6, y12, y13, y14, e2⟩ := nx_of h
    exact ⟨y6, y12, y13, y14, by rw [e, e2]⟩
  · rintro pre p post e ρ ⟨y6, y12, y13, y14, rfl⟩
    have hp : p < F.length - 1 := List.mem_range.mp (by rw [e]; simp)
    obtain ⟨z12, z13, z14, e2⟩ := k26_two (n := n) hn hF hw hl hp x0 x1 x2 x3 x4 y6 x8 x9 x10 x11 y12 y13 y14
    exact nx_exs ⟨_, e2, .val (.int (p : Int)), z12, z13, z14, rfl⟩
/-! ### values -/
def valL (c : Int) (a p : Int) (m : Nat) : List Int := (List.range m).map fun (j : Nat) => mix (c + a * (j : Int)) p 200
theorem val_lc {n : Nat} (hn : 1 ≤ n) (c : Int) (a p : Int) (ha : a = 3 ∨ a = 5) (hp : 0 < p) (hp2 : p < 100000) (m : Nat) (x0 x1 x3 x4 x5 x6 x7 x8 x9 x10 x11 x12 x13 x14 : Sl) :
    kLc2 (collect (lcG U (callD U n) [x0, x1, .val (.int c), x3, x4, x5, x6, x7, x8, x9, x10, x11, x12, x13, x14] (.one 6) .no (.call 4 (.cons (.bin .add (.var 2) (.bin .mul (.int a) (.var 6))) (.cons (.int p) (.cons (.int 200) (.nil)))))) ((List.range m).map fun (j : Nat) => PyData.int (j : Int))) = .ok (lM PyData.int (valL c a p m)) := by
  rw [lc_m PyData.int (fun (j : Nat) => mix (c + a * (j : Int)) p 200)]
  · rfl
  · intro j _
    have h := mix_ok (n := n) hn (c := c + a * (j : Int)) (p := p) (m := 200) hp hp2 (by decide)
    rcases ha with rfl | rfl
    · simp (disch := (first | assumption | omega | (simp only [LEN] <;> omega) | decide)) only [EV0, EV1, EV2, EV3, EV4, List.getElem?_cons_zero, List.getElem?_cons_succ, List.set_cons_zero, List.set_cons_succ, Res.ofO_some, bop, cop, bfn, mtd, wipeR, Tg.slots, Nat.zero_add, Nat.add_zero, eq_self, decide_true, decide_false, ite_true, ite_false, h]
    · simp (disch := (first | assumption | omega | (simp only [LEN] <;> omega) | decide)) only [EV0, EV1, EV2, EV3, EV4, List.getElem?_cons_zero, List.getElem?_cons_succ, List.set_cons_zero, List.set_cons_succ, Res.ofO_some, bop, cop, bfn, mtd, wipeR, Tg.slots, Nat.zero_add, Nat.add_zero, eq_self, decide_true, decide_false, ite_true, ite_false, h]
theorem fig_lc {n : Nat} (hn : 2 ≤ n) {G : List Nat} (hG : AllF G) (hl : G.length ≤ 100) (x0 x1 x2 x4 x5 x6 x7 x8 x9 x10 x11 x12 x13 x14 : Sl) :
    kLc2 (collect (lcG U (callD U n) [x0, x1, x2, .val (sT G), x4, x5, x6, x7, x8, x9, x10, x11, x12, x13, x14] (.one 14) (.some (.call 27 (.cons (.bin .add (.var 3) (.var 14)) (.nil)))) (.var 14)) (figs.map sC)) = .ok (lM sC ((figs.filter fun d => decide (d = chk G)).map id)) := by
  rw [lc_f sC id (fun d => decide (d = chk G))]
  intro d hd
  have all : AllF (G ++ [d]) := hG.app fun x hx => by rw [List.mem_singleton.mp hx]; exact hd
  have f := fits_ok (n := n) hn all
  have e := mid_fits (a := G) (b := []) (chk_mem G) hd (chk_fits G)
  rw [show decide (wgt (G ++ [d]) % 10 = 0) = decide (d = chk G) from decide_eq_decide.mpr e] at f
  by_cases h : d = chk G
  · have hb : decide (d = chk G) = true := decide_eq_true h
    rw [hb] at f ⊢
    clear e h hb
    simp (disch := (first | assumption | omega | (simp only [LEN] <;> omega) | decide)) only [EV0, EV1, EV2, EV3, EV4, List.getElem?_cons_zero, List.getElem?_cons_succ, List.set_cons_zero, List.set_cons_succ, Res.ofO_some, bop, cop, bfn, mtd, wipeR, Tg.slots, Nat.zero_add, Nat.add_zero, eq_self, decide_true, decide_false, ite_true, ite_false, f, id, if_true]
  · have hb : decide (d = chk G) = false := decide_eq_false h
    rw [hb] at f ⊢
    clear e h hb
    simp (disch := (first | assumption | omega | (simp only [LEN] <;> omega) | decide)) only [EV0, EV1, EV2, EV3, EV4, List.getElem?_cons_zero, List.getElem?_cons_succ, List.set_cons_zero, List.set_cons_succ, Res.ofO_some, bop, cop, bfn, mtd, wipeR, Tg.slots, Nat.zero_add, Nat.add_zero, eq_self, decide_true, decide_false, ite_true, ite_false, f, Bool.false_eq_true, if_false]
theorem add_lc {n : Nat} (v o : List Int) (x0 x1 x2 x3 x4 x5 x6 x7 x8 x9 x10 x11 x12 x13 x14 : Sl) :
    kLc2 (collect (lcG U (callD U n) [x0, x1, x2, x3, x4, x5, x6, x7, x8, x9, x10, x11, x12, x13, x14] (.tup [14, 12]) .no (.bin .add (.var 14) (.var 12))) ((v.zip o).map fun p => PyData.tuple [.int p.1, .int p.2])) = .ok (lM PyData.int ((v.zip o).map fun p => p.1 + p.2)) := by
  rw [lc_m PyData.int (fun (p : Int × Int) => p.1 + p.2)]
  intro p _
  simp (disch := (first | assumption | omega | (simp only [LEN] <;> omega) | decide)) only [EV0, EV1, EV2, EV3, EV4, List.getElem?_cons_zero, List.getElem?_cons_succ, List.set_cons_zero, List.set_cons_succ, Res.ofO_some, bop, cop, bfn, mtd, wipeR, Tg.slots, Nat.zero_add, Nat.add_zero, eq_self, decide_true, decide_false, ite_true, ite_false]
theorem k26_three {n : Nat} (hn : 5 ≤ n) (ns : List Int) {k : Nat} (hk : k < 14) (x1 x2 x3 x4 x5 x6 x7 x8 x9 x10 x11 x12 x13 x14 : Sl) :
    ∃ y2 y3 y4 y5 y6 y7 y8 y9 y10 y11 y12 y13 y14, forF U (callD U n) (.one 1) B_law_k26_3 [.val (scrD ns), x1, x2, x3, x4, x5, x6, x7, x8, x9, x10, x11, x12, x13, x14] (.int (k : Int)) = .nx [.val (scrD ns), .val (.int (k : Int)), y2, y3, y4, y5, y6, y7, y8, y9, y10, y11, y12, y13, y14] := by
  have a := cell_ok (n := n) (by omega) ns (k := (k : Int) % 9) (by omega)
  generalize cellAt ns ((k : Int) % 9) = C0 at *
  generalize hc : C0 + 37 * (k : Int) = c
  have m1 := mix_ok (n := n) (by omega) (c := c) (p := 9391) (m := 18) (by decide) (by decide) (by decide)
  have m2 := mix_nn (c := c) (p := 9391) (m := 18) (by decide)
  have m3 := mix_lt (c := c) (p := 9391) (m := 18) (by decide)
  have g1 := lfigs_ok (n := n) (by omega) (c := c) (m := 1 + mix c 9391 18) (by omega) (by omega)
  have gl := drawF_len c (1 + mix c 9391 18)
  have ga := drawF_all c (1 + mix c 9391 18)
  generalize drawF c (1 + mix c 9391 18) = G at *
  have hG : G.length ≤ 19 := by omega
  have k1 := check_ok (n := n) (by omega) ga (by omega)
  have kc := chk_mem G
  have FA : AllF (G ++ [chk G]) := ga.app fun x hx => by rw [List.mem_singleton.mp hx]; exact kc
  have FW := chk_fits G
  have F1 := fits_ok (n := n) (by omega) FA
  rw [decide_eq_true FW] at F1
  have FL : (G ++ [chk G]).length = G.length + 1 := by rw [List.length_append, List.length_singleton]
  have ZZA : AllF ([48, 48] ++ G) := (fig0.app fig0).app ga
  have k3 := check_ok (n := n) (by omega) ZZA (by rw [List.length_append]; simp only [List.length_cons, List.length_nil]; omega)
  have kk : chk ([48, 48] ++ G) = chk G := chk_nought G
  rw [kk] at k3
  have s := silent_ok (n := n) (by omega) FA (by omega)
  have hfl := fig_lc (n := n) (by omega) ga (by omega) (.val (scrD ns)) (.val (.int (k : Int))) (.val (.int c)) (.val (sT [chk G])) (.val (sT (G ++ [chk G]))) x6 x7 x8 x9 x10 x11 x12 x13 x14
  rw [filter_one kc, List.map_id] at hfl
  obtain ⟨w6, w12, LA⟩ := k26_loopA (n := n) (by omega) FA FW (by omega) c (.val (scrD ns)) (.val (.int (k : Int))) (.val (sT G)) (.val (sT [chk G])) x6 x7 x8 x9 x10 x11 x12 x13 x14
  obtain ⟨z6, z12, z13, z14, LB⟩ := k26_loopB (n := n) (by omega) FA FW (by omega) (.val (scrD ns)) (.val (.int (k : Int))) (.val (.int c)) (.val (sT G)) (.val (sT [chk G])) w6 x8 x9 x10 x11 w12 x13 x14
  -- values
  have v1 := mix_ok (n := n) (by omega) (c := c) (p := 9349) (m := 9) (by decide) (by decide) (by decide)
  have v2 := mix_nn (c := c) (p := 9349) (m := 9) (by decide)
  have v3 := mix_lt (c := c) (p := 9349) (m := 9) (by decide)
  obtain ⟨M, hM⟩ : ∃ M : Nat, mix c 9349 9 = (M : Int) := ⟨(mix c 9349 9).toNat, by omega⟩
  rw [hM] at v1
  have w1 := mix_ok (n := n) (by omega) (c := c) (p := 9341) (m := 120) (by decide) (by decide) (by decide)
  have w2 := mix_nn (c := c) (p := 9341) (m := 120) (by decide)
  have w3 := mix_lt (c := c) (p := 9341) (m := 120) (by decide)
  have hvl : (valL c 3 9371 (1 + M)).length = 1 + M := by unfold valL; simp
  have hol : (valL c 5 9343 (1 + M)).length = 1 + M := by unfold valL; simp
  have lv := val_lc (n := n) (by omega) c 3 9371 (.inl rfl) (by decide) (by decide) (1 + M) (.val (scrD ns)) (.val (.int (k : Int))) (.val (sT G)) (.val (sT [chk G])) (.val (sT (G ++ [chk G]))) z6 (.val (tI (quiL (G ++ [chk G])))) x8 x9 x10 x11 z12 z13 z14
  have lo := val_lc (n := n) (by omega) c 5 9343 (.inr rfl) (by decide) (by decide) (1 + M) (.val (scrD ns)) (.val (.int (k : Int))) (.val (sT G)) (.val (sT [chk G])) (.val (sT (G ++ [chk G]))) z6 (.val (tI (quiL (G ++ [chk G])))) (.val (tI (valL c 3 9371 (1 + M)))) x9 x10 x11 z12 z13 z14
  generalize valL c 3 9371 (1 + M) = V at *
  generalize valL c 5 9343 (1 + M) = O at *
  generalize hBY : 2 + mix c 9341 120 = BY at *
  have la := add_lc (n := n) V O (.val (scrD ns)) (.val (.int (k : Int))) (.val (.int c)) (.val (sT G)) (.val (sT [chk G])) (.val (sT (G ++ [chk G]))) z6 (.val (tI (quiL (G ++ [chk G])))) (.val (tI V)) (.val (tI O)) (.val (.int BY)) x11 z12 z13 z14
  have hVn : V ≠ [] := fun z => by rw [z] at hvl; simp at hvl; omega
  have hOn : O ≠ [] := fun z => by rw [z] at hol; simp at hol; omega
  have hzl : ((V.zip O).map fun p => p.1 + p.2).length = 1 + M := by rw [List.length_map, List.length_zip]; omega
  have hzn : (V.zip O).map (fun p => p.1 + p.2) ≠ [] := fun z => by rw [z] at hzl; simp at hzl; omega
  have c1 := mod_ok (n := n) (by omega) (l := (V.zip O).map fun p => p.1 + p.2) (b := BY) hzn (by omega) (by omega)
  have c2 := mod_ok (n := n) (by omega) (l := V) (b := BY) hVn (by omega) (by omega)
  have c3 := mod_ok (n := n) (by omega) (l := O) (b := BY) hOn (by omega) (by omega)
  have c4 := mod_ok (n := n) (by omega) (l := V ++ [1]) (b := BY) (by simp) (by omega) (by rw [List.length_append, List.length_singleton]; omega)
  have x0 : ixD (tI V) (.int 0) = some (.int (V.getD 0 0)) := ixd_tI (by omega) (by omega)
  have ht1 : V.take 1 = [V.getD 0 0] := by
    cases V with
    | nil => exact absurd rfl hVn
    | cons v V => rfl
  have c5 := mod_ok (n := n) (by omega) (l := [V.getD 0 0]) (b := BY) (by simp) (by omega) (by simp)
  rw [mck_one] at c5
  have A1 := mck_add (v := V) (o := O) BY (by omega) hVn
  have A2 := mck_snoc (v := V) BY hVn
  rw [A1] at c1
  rw [A2] at c4
  have r1 : 0 ≤ (mck V BY + mck O BY) % BY := Int.emod_nonneg _ (by omega)
  have r2 : (mck V BY + mck O BY) % BY < BY := Int.emod_lt_of_pos _ (by omega)
  have hBp : 0 < BY := by omega
  have hV9 : V.length ≤ 9 := by omega
  have hM9 : M ≤ 8 := by omega
  clear A1 A2 kc ZZA m2 m3 gl ga v2 v3 w2 w3
  have tl : ((G ++ [chk G]).length : Int).toNat = (G ++ [chk G]).length := rfl
  have tl1 : (((G ++ [chk G]).length : Int) - 1).toNat = (G ++ [chk G]).length - 1 := by omega
  have nn : ∀ l : List Nat, cNe (sT l) (sT l) = some (.bool false) := fun l => by rw [ne_sT]; simp
  have tM1 : (1 + (M : Int)).toNat = 1 + M := by omega
  have tV : (V.length : Int).toNat = 1 + M := by omega
  have fg : sT [48, 49, 50, 51, 52, 53, 54, 55, 56, 57] = sT figs := rfl
  have zp : zipD (V.map PyData.int) (O.map PyData.int) = (V.zip O).map fun p => PyData.tuple [.int p.1, .int p.2] := zip_map V O
  have neF : cNe (lM sC [chk G]) (.list [sT [chk G]]) = some (.bool false) := by
    show cNe (.list [sT [chk G]]) (.list [sT [chk G]]) = _
    unfold cNe gd
    rw [if_pos ⟨rfl, rfl, by simp [PyData.depth, PyData.depthAll, sT]⟩, PySem.SeqAt.eqv_refl_plain _ rfl]
    rfl
  have t1i : (1 : Int).toNat = 1 := rfl
  have tt1 : ∀ i : Int, PyData.tuple [.int i] = tI [i] := fun _ => rfl
  generalize quiL (G ++ [chk G]) = QQ at *
  generalize hZS : (V.zip O).map (fun p => p.1 + p.2) = ZS at *
  generalize mck V BY = MV at *
  generalize mck O BY = MO at *
  generalize hCG : chk G = CG at *
  have b2 : ([48, 48] ++ G).length ≤ 1000000 := by rw [List.length_append]; simp only [List.length_cons, List.length_nil]; omega
  generalize hFF : G ++ [CG] = FF at *
  have hLV : V.length + [1].length ≤ 1000000 := by simp only [List.length_cons, List.length_nil]; omega
  generalize V.getD 0 0 = V0 at *
  refine ⟨.val (.int c), .val (sT G), .val (sT [CG]), .val (sT FF), z6, .val (tI QQ), .val (tI V), .val (tI O), .val (.int BY), .val (.int ((MV + MO) % BY)), z12, z13, z14, ?_⟩
  simp (disch := (first | assumption | omega | (simp only [LEN] <;> omega) | decide)) only [B_law_k26_3, EV0, EV1, EV2, EV3, EV4, List.getElem?_cons_zero, List.getElem?_cons_succ, List.set_cons_zero, List.set_cons_succ, Res.ofO_some, bop, cop, bfn, mtd, wipeR, Tg.slots, Nat.zero_add, Nat.add_zero, eq_self, decide_true, decide_false, ite_true, ite_false, a, hc, m1, g1, k1, hFF, F1, isn_t, k3, nn, fg] at hfl ⊢
  rw [hfl]
  simp (disch := (first | assumption | omega | (simp only [LEN] <;> omega) | decide)) only [EV0, EV1, EV2, EV3, EV4, List.getElem?_cons_zero, List.getElem?_cons_succ, List.set_cons_zero, List.set_cons_succ, Res.ofO_some, bop, cop, bfn, mtd, wipeR, Tg.slots, Nat.zero_add, Nat.add_zero, eq_self, decide_true, decide_false, ite_true, ite_false, neF, LA, tl, tl1, s, LB, v1, tM1] at lv ⊢
  rw [lv]
  simp (disch := (first | assumption | omega | (simp only [LEN] <;> omega) | decide)) only [EV0, EV1, EV2, EV3, EV4, List.getElem?_cons_zero, List.getElem?_cons_succ, List.set_cons_zero, List.set_cons_succ, Res.ofO_some, bop, cop, bfn, mtd, wipeR, Tg.slots, Nat.zero_add, Nat.add_zero, eq_self, decide_true, decide_false, ite_true, ite_false, tV] at lo ⊢
  rw [lo]
  simp (disch := (first | assumption | omega | (simp only [LEN] <;> omega) | decide)) only [EV0, EV1, EV2, EV3, EV4, List.getElem?_cons_zero, List.getElem?_cons_succ, List.set_cons_zero, List.set_cons_succ, Res.ofO_some, bop, cop, bfn, mtd, wipeR, Tg.slots, Nat.zero_add, Nat.add_zero, eq_self, decide_true, decide_false, ite_true, ite_false, w1, hBY, zp] at la ⊢
  rw [la]
  simp (disch := (first | assumption | omega | (simp only [LEN] <;> omega) | decide)) only [EV0, EV1, EV2, EV3, EV4, List.getElem?_cons_zero, List.getElem?_cons_succ, List.set_cons_zero, List.set_cons_succ, Res.ofO_some, bop, cop, bfn, mtd, wipeR, Tg.slots, Nat.zero_add, Nat.add_zero, eq_self, decide_true, decide_false, ite_true, ite_false, c1, c2, c3, r1, r2, cut_hi, t1i, ht1, c5, x0, tt1, c4]
theorem law_k26_ok (ns : List Int) (_ : ns.length ≤ 63) : callD U 20 161 [scrD ns] = .ok (.bool true) := by
  show callD U (19 + 1) _ _ = _
  rw [run_law_k26]
  simp (disch := (first | assumption | omega | (simp only [LEN] <;> omega) | decide)) only [b_law_k26, EV0, EV1, EV2, EV3, EV4, List.getElem?_cons_zero, List.getElem?_cons_succ, List.set_cons_zero, List.set_cons_succ, Res.ofO_some, bop, cop, bfn, mtd, wipeR, Tg.slots, Nat.zero_add, Nat.add_zero, eq_self, decide_true, decide_false, ite_true, ite_false]
  refine seq_fin (for_pre (fun pre ρ => ∃ x1 x2 x3 x4 x5 x6 x7 x8 x9 x10 x11 x12 x13 x14, ρ = [.val (scrD ns), x1, x2, x3, x4, x5, x6, x7, x8, x9, x10, x11, x12, x13, x14]) (List.range 14) ⟨_, _, _, _, _, _, _, _, _, _, _, _, _, _, rfl⟩ ?_) ?_
  · rintro pre k post e ρ ⟨x1, x2, x3, x4, x5, x6, x7, x8, x9, x10, x11, x12, x13, x14, rfl⟩
    have hk : k < 14 := List.mem_range.mp (by rw [e]; simp)
    obtain ⟨y2, y3, y4, y5, y6, y7, y8, y9, y10, y11, y12, y13, y14, e2⟩ := k26_three (n := 19) (by omega) ns hk x1 x2 x3 x4 x5 x6 x7 x8 x9 x10 x11 x12 x13 x14
    exact nx_exs ⟨_, e2, .val (.int (k : Int)), y2, y3, y4, y5, y6, y7, y8, y9, y10, y11, y12, y13, y14, rfl⟩
  · rintro ρ ⟨x1, x2, x3, x4, x5, x6, x7, x8, x9, x10, x11, x12, x13, x14, rfl⟩
    simp (disch := (first | assumption | omega | (simp only [LEN] <;> omega) | decide)) only [EV0, EV1, EV2, EV3, EV4, List.getElem?_cons_zero, List.getElem?_cons_succ, List.set_cons_zero, List.set_cons_succ, Res.ofO_some, bop, cop, bfn, mtd, wipeR, Tg.slots, Nat.zero_add, Nat.add_zero, eq_self, decide_true, decide_false, ite_true, ite_false]
end Bg

set_option Elab.async false
set_option linter.all false
set_option maxRecDepth 100000
set_option maxHeartbeats 8000000
namespace Law
open PySem PySem.Spec PyProof.Rows L2 Bg
def top (i : Nat) : Stmt := PySem.Challenge.pw_bargaps_k26_whole_checks_and_slips.main.body.getD i (.Pass ⟨0, 0, 0, 0⟩)
def cs : List Nat := [3]
def fs : List Nat := [3, 4, 25, 26, 27, 29, 30, 31, 32, 161]
def es : List Nat := []
def ws : List (Str × Stmt) := []
def P : Pt := { U.only cs fs es ws with tw := [(28, Bg.F_lacking, top 5)] }
def sts : List Stmt := [top 10, top 11, top 2, top 3, top 4, top 6, top 7, top 8, top 12, top 13]
def loose : List Str := (["FIGURES", "weighed", "check_of", "fits", "lacking", "exchanged", "silent", "mod_check", "_law_cell", "_law_mix", "_law_figures"] : List Str)
theorem tw_ok : ∀ f fd st, (f, fd, st) ∈ P.tw → U.fn f = some fd := fun f fd st h => by have e := List.mem_singleton.mp h; cases e; rfl
theorem text : textOk P sts = true := by decide +kernel
abbrev R : PySem.W.OpenRow := PySem.W.OpenLaw.row PySem.Challenge.rw_bargaps_k26_whole_checks_and_slips
abbrev hk : PySem.W.Hook := hookB 5 P sts
def ob (s : PySem.W.SharedT) : AlB := obsB 5 P sts (HandSHeadRun.getT s)
theorem ob_eq (s : PySem.W.SharedT) : ob s = hk.obs s.abs := obsB_eq (HandSHeadRun.getT_eq s)
theorem run (w : World) : HandSHeadRun.RunEq R (PySem.W.view R.prog [13]) hk ob 20000 loose w := by
  intro os
  kernel_rfl
abbrev lv : Nat := 20
theorem law_ok (ns : List Int) (h : ns.length ≤ 63) : callD U lv 161 [scrD ns] = .ok (.bool true) := law_k26_ok ns h
end Law
open PySem PySem.W PySem.Calls PyProof.Rows
theorem PySem.Challenge.cw_bargaps_k26_whole_checks_and_slips_holds : PySem.Challenge.rw_bargaps_k26_whole_checks_and_slips.Holds := by
  w_on; o_law
  refine HandSHeadRun.head_any (r := OpenLaw.row PySem.Challenge.rw_bargaps_k26_whole_checks_and_slips) (q := view (OpenLaw.row PySem.Challenge.rw_bargaps_k26_whole_checks_and_slips).prog [13]) (H := Law.hk) (ob := Law.ob) (M := 20000) (loose := Law.loose) (d := HandSHeadRun.topDef (OpenLaw.row PySem.Challenge.rw_bargaps_k26_whole_checks_and_slips).prog 13) (kwd := []) Law.ob_eq
    (by kernel_rfl) (fun s => by kernel_rfl) Law.run (by kernel_rfl) (by kernel_rfl) (by kernel_rfl) (by rfl) (by first | assumption | decide +kernel) (by decide +kernel) ⟨rfl, rfl, rfl, rfl, rfl, by decide +kernel⟩ ?hw ?hc
  case hw => w_witness2
  case hc => exact Bg.walk_law (l := PySem.Challenge.rw_bargaps_k26_whole_checks_and_slips) (n := Law.lv) (lf := 161) (fd := Bg.F_law_k26) (x := "script") (U := Bg.U) (P := Law.P) (cs := Law.cs) (fs := Law.fs) (es := Law.es) (ws := Law.ws) rfl rfl Law.tw_ok rfl (by kernel_rfl) ⟨rfl, by decide, by decide⟩ rfl (by kernel_rfl) rfl rfl Law.text Law.law_ok
