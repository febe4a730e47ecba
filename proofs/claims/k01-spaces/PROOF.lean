import PyProof.Rows.All
import Wide.All
import OpenK.AllK
import Wide.FinOn
import HandS.ForMost
import HandS.Walk
import HandS.IsInst
import HandS.Nested
import HandS.EndTab
import HandS.Conv
import HandS.Flow
import HandS.DictComp
import HandS.SortInts
import HandS.Zip
import HandS.OwnEq
import HandS.Evl
import HandS.WordsDict
import HandS.ListItems
import HandS.More
import KE.GoesMore
import KE.SortData
import PyProof.TupleOfSeq
import PyProof.InstNe
import KE.KEqNest
import HandS.MakeKwOnly
import PyProof.ReprRoads
import PyProof.StrLawsRepr
import HandS.DeepEq
import KE.DataEq
import KE.DataCmp
import HandS.HeadWalk
import HandS.HeadHook4
import HandS.Head2
import PySem.Challenge.RW_skyhomes_k01_whole_spaces_told
set_option Elab.async false
set_option linter.all false
set_option maxRecDepth 100000
set_option maxHeartbeats 4000000
/-! Sky A: frames of change, data in the abstract heap, streams. -/
namespace Sky
open PySem L2 LamX NdefX

/-! ### what stays -/
/-- all but what is at l (and but the tables of code objects) stays; the tables stay tables -/
structure Kp (T : List NTab) (l : List Addr) (H H' : Hp) : Prop where
  k : ∀ b o, b ∉ l → H b = some o → (∀ ps, o ≠ .tbl ps) → H' b = some o
  t : TabsN T H → TabsN T H'
  n : ∀ b, H' b = none → H b = none
section
variable {T : List NTab} {l l' : List Addr} {H H1 H2 H' : Hp} {p : Addr} {o : HO}
theorem Kp.refl : Kp T l H H := ⟨fun _ _ _ h _ => h, fun h => h, fun _ h => h⟩
theorem Kp.trans (a : Kp T l H H1) (b : Kp T l H1 H2) : Kp T l H H2 := ⟨fun c o n h z => b.k c o n (a.k c o n h z) z, fun h => b.t (a.t h), fun c h => a.n c (b.n c h)⟩
theorem Kp.mono (a : Kp T l H H') (h : ∀ x ∈ l, x ∈ l') : Kp T l' H H' := ⟨fun b o n e z => a.k b o (fun q => n (h b q)) e z, a.t, a.n⟩
theorem tab_of {nm : Nat → Nat → Str} {P : Addr} (t : TabN H P nm) (e : ∀ b o, H b = some o → (∀ xs, o ≠ .lst xs) → H' b = some o) : TabN H' P nm := by
  obtain ⟨ps, h1, h2, h3⟩ := t
  refine ⟨ps, e _ _ h1 (fun xs z => by cases z), h2, fun pos cv hc => ?_⟩
  obtain ⟨c, e1, e2⟩ := h3 pos cv hc
  exact ⟨c, e1, e _ _ e2 (fun xs z => by unfold CodeO at z; cases z)⟩
theorem Kp.of (h : ∀ b o, b ∉ l → H b = some o → H' b = some o) (hl : ∀ b ∈ l, ∃ xs, H b = some (.lst xs)) (hn : ∀ b, H' b = none → H b = none) : Kp T l H H' := by
  refine ⟨fun b o n e _ => h b o n e, fun t q hq => tab_of (t q hq) fun b o e n => ?_, hn⟩
  by_cases hb : b ∈ l
  · obtain ⟨xs, hx⟩ := hl b hb
    rw [hx] at e
    cases e
    exact (n xs rfl).elim
  · exact h b o hb e
theorem none_of (h : ∀ b o, H b = some o → H' b = some o) : ∀ b, H' b = none → H b = none := fun b e => by
  cases q : H b with
  | none => rfl
  | some o =>
    rw [h b o q] at e
    cases e
theorem upd_none' {b : Addr} (e : L2.upd H p o b = none) : H b = none := NdefX.upd_none e
theorem Kp.same (h : ∀ b o, H b = some o → H' b = some o) : Kp T l H H' := ⟨fun b o _ e _ => h b o e, fun t q hq => (t q hq).ext h, none_of h⟩
theorem Kp.new (h : H p = none) : Kp T l H (upd H p o) := Kp.same fun b u e => by
  rw [upd_ne (ne_of_none e h)]
  exact e
theorem Kp.upd {xs : List V} (hp : p ∈ l) (h : H p = some (.lst xs)) : Kp T l H (upd H p o) := by
  refine ⟨fun b u n e _ => ?_, fun t q hq => tab_of (t q hq) fun b u e n => ?_, fun b => upd_none'⟩
  · have nb : b ≠ p := fun z => n (z ▸ hp)
    rw [upd_ne nb]
    exact e
  · have nb : b ≠ p := fun z => by
      rw [z, h] at e
      cases e
      exact n xs rfl
    rw [upd_ne nb]
    exact e
theorem Kp.updI {C dx : Addr} {fs : List (Str × V)} (hp : p ∈ l) (h : H p = some (.ins C dx fs)) : Kp T l H (L2.upd H p o) := by
  refine ⟨fun b u n e _ => ?_, fun t q hq => ?_, fun b => upd_none'⟩
  · have nb : b ≠ p := fun z => n (z ▸ hp)
    rw [upd_ne nb]
    exact e
  · obtain ⟨ps, h1, h2, h3⟩ := t q hq
    have nb : ∀ b u, H b = some u → (∀ C dx fs, u ≠ .ins C dx fs) → b ≠ p := fun b u e n z => by
      rw [z, h] at e
      cases e
      exact n _ _ _ rfl
    refine ⟨ps, by rw [upd_ne (nb _ _ h1 fun _ _ _ z => by cases z)]; exact h1, h2, fun pos cv hc => ?_⟩
    obtain ⟨c, e1, e2⟩ := h3 pos cv hc
    exact ⟨c, e1, by rw [upd_ne (nb _ _ e2 fun _ _ _ z => by unfold CodeO at z; cases z)]; exact e2⟩
theorem Kp.updD {kvs : List (Key × V)} (hp : p ∈ l) (h : H p = some (.dK kvs)) : Kp T l H (L2.upd H p o) := by
  refine ⟨fun b u n e _ => ?_, fun t q hq => ?_, fun b => upd_none'⟩
  · have nb : b ≠ p := fun z => n (z ▸ hp)
    rw [upd_ne nb]
    exact e
  · obtain ⟨ps, h1, h2, h3⟩ := t q hq
    have nb : ∀ b u, H b = some u → (∀ fs, u ≠ .dK fs) → b ≠ p := fun b u e n z => by
      rw [z, h] at e
      cases e
      exact n _ rfl
    refine ⟨ps, by rw [upd_ne (nb _ _ h1 fun _ z => by cases z)]; exact h1, h2, fun pos cv hc => ?_⟩
    obtain ⟨c, e1, e2⟩ := h3 pos cv hc
    exact ⟨c, e1, by rw [upd_ne (nb _ _ e2 fun _ z => by unfold CodeO at z; cases z)]; exact e2⟩
/-- what is new since H need not be told -/
theorem Kp.drop (a : Kp T (p :: l) H H') (h : H p = none) : Kp T l H H' := ⟨fun b o n e z => a.k b o (fun q => by
  rcases List.mem_cons.mp q with q | q
  · rw [q, h] at e
    cases e
  · exact n q) e z, a.t, a.n⟩
theorem Kp.lst (a : Kp T l H H') {b : Addr} {xs : List V} (hb : b ∉ l) (h : H b = some (.lst xs)) : H' b = some (.lst xs) := a.k b _ hb h fun _ z => by cases z
theorem Kp.tup (a : Kp T l H H') {b : Addr} {xs : List V} (hb : b ∉ l) (h : H b = some (.tup xs)) : H' b = some (.tup xs) := a.k b _ hb h fun _ z => by cases z
theorem Kp.ins (a : Kp T l H H') {b C dx : Addr} {xs : List (Str × V)} (hb : b ∉ l) (h : H b = some (.ins C dx xs)) : H' b = some (.ins C dx xs) := a.k b _ hb h fun _ z => by cases z
theorem Kp.dK (a : Kp T l H H') {b : Addr} {xs : List (Key × V)} (hb : b ∉ l) (h : H b = some (.dK xs)) : H' b = some (.dK xs) := a.k b _ hb h fun _ z => by cases z
theorem Kp.dT (a : Kp T l H H') {b : Addr} {xs : List (List Key × V)} (hb : b ∉ l) (h : H b = some (.dT xs)) : H' b = some (.dT xs) := a.k b _ hb h fun _ z => by cases z
end

/-! ### the heap without some places -/
def off (l : List Addr) (H : Hp) : Hp := fun b => if b ∈ l then none else H b
section
variable {T : List NTab} {l l' : List Addr} {H H1 H2 H' : Hp} {p b : Addr} {o : HO}
theorem off_ne (h : b ∉ l) : off l H b = H b := if_neg h
theorem off_in (h : b ∈ l) : off l H b = none := if_pos h
theorem of_off (e : off l H b = some o) : b ∉ l ∧ H b = some o := by
  by_cases h : b ∈ l
  · rw [off_in h] at e
    cases e
  · rw [off_ne h] at e
    exact ⟨h, e⟩
theorem off_some (h : b ∉ l) (e : H b = some o) : off l H b = some o := by rw [off_ne h]; exact e
end

/-! ### data in the heap -/
/-- what data leans on stays -/
def Ke (H H' : Hp) : Prop := ∀ b o, H b = some o → (∀ ps, o ≠ .tbl ps) → H' b = some o
section
variable {T : List NTab} {l l' : List Addr} {H H1 H2 H' : Hp} {p b : Addr} {o : HO}
theorem Ke.refl : Ke H H := fun _ _ h _ => h
theorem Ke.trans (a : Ke H H1) (b : Ke H1 H2) : Ke H H2 := fun c o h n => b c o (a c o h n) n
theorem Ke.off : Ke (off l H) H := fun _ _ h _ => (of_off h).2
theorem Kp.ke (a : Kp T l H H') : Ke (Sky.off l H) (Sky.off l H') := fun c o h n => off_some (of_off h).1 (a.k c o (of_off h).1 (of_off h).2 n)
theorem Kp.ke0 (a : Kp T [] H H') : Ke H H' := fun c o h n => a.k c o (fun z => by cases z) h n
theorem Ke.sub (h : ∀ x ∈ l, x ∈ l') : Ke (Sky.off l' H) (Sky.off l H) := fun c o e n => off_some (fun z => (of_off e).1 (h c z)) (of_off e).2
theorem Ke.same (h : ∀ b o, H b = some o → H' b = some o) : Ke H H' := fun b o e _ => h b o e
theorem Ke.new (h : H p = none) : Ke H (upd H p o) := Ke.same fun b u e => by
  rw [upd_ne (ne_of_none e h)]
  exact e
theorem Ke.rd {u : HO} (a : Ke H H') (hu : ∀ ps, u ≠ .tbl ps) (h : Rd H b u) : Rd H' b u := by
  rcases h with h | ⟨o, h⟩
  · exact .inl (a _ _ h hu)
  · exact .inr ⟨o, a _ _ h fun ps z => by cases z⟩
theorem Ke.lq {K : PySem.W.Frag} {xs : List V} (a : Ke H H') (h : SqL K H b xs) : SqL K H' b xs := by
  rcases h with h | h
  · exact .inl (a.rd (fun _ z => by cases z) h)
  · exact .inr h
theorem Ke.tq {K : PySem.W.Frag} {xs : List V} (a : Ke H H') (h : SqT K H b xs) : SqT K H' b xs := by
  rcases h with h | h
  · exact .inl (a.rd (fun _ z => by cases z) h)
  · exact .inr h
end
/-- a value is data: None, bools, numbers, texts, lists and tuples of such, dicts with keys that are numbers or texts -/
def kD : Key → PyData
  | .inl i => .int i
  | .inr x => .str x
mutual
inductive Rp (K : PySem.W.Frag) (H : Hp) : V → PyData → Prop
  | non : Rp K H .non .none
  | bl (b : Bool) : Rp K H (.bl b) (.bool b)
  | int (i : Int) : Rp K H (.int i) (.int i)
  | str (x : Str) : Rp K H (.str x) (.str x)
  | lst {a : Addr} {xs : List V} {ds : List PyData} : H a = some (.lst xs) → RpA K H xs ds → Rp K H (.ref a) (.list ds)
  | tup {a : Addr} {xs : List V} {ds : List PyData} : SqT K H a xs → RpA K H xs ds → Rp K H (.ref a) (.tuple ds)
  | dct {a : Addr} {xs : List (Key × V)} {ds : List (PyData × PyData)} : H a = some (.dK xs) → RpD K H xs ds → Rp K H (.ref a) (.dict ds)
inductive RpA (K : PySem.W.Frag) (H : Hp) : List V → List PyData → Prop
  | nil : RpA K H [] []
  | cons {v : V} {vs : List V} {d : PyData} {ds : List PyData} : Rp K H v d → RpA K H vs ds → RpA K H (v :: vs) (d :: ds)
inductive RpD (K : PySem.W.Frag) (H : Hp) : List (Key × V) → List (PyData × PyData) → Prop
  | nil : RpD K H [] []
  | cons {k : Key} {v : V} {vs : List (Key × V)} {d : PyData} {ds : List (PyData × PyData)} : Rp K H v d → RpD K H vs ds → RpD K H ((k, v) :: vs) ((kD k, d) :: ds)
end
mutual
theorem Rp.ke {K : PySem.W.Frag} {H H' : Hp} (a : Ke H H') : ∀ {v : V} {d : PyData}, Rp K H v d → Rp K H' v d
  | _, _, .non => .non
  | _, _, .bl b => .bl b
  | _, _, .int i => .int i
  | _, _, .str x => .str x
  | _, _, .lst h t => .lst (a _ _ h fun _ z => by cases z) (t.ke a)
  | _, _, .tup h t => .tup (a.tq h) (t.ke a)
  | _, _, .dct h t => .dct (a _ _ h fun _ z => by cases z) (t.ke a)
theorem RpA.ke {K : PySem.W.Frag} {H H' : Hp} (a : Ke H H') : ∀ {v : List V} {d : List PyData}, RpA K H v d → RpA K H' v d
  | _, _, .nil => .nil
  | _, _, .cons h t => .cons (h.ke a) (t.ke a)
theorem RpD.ke {K : PySem.W.Frag} {H H' : Hp} (a : Ke H H') : ∀ {v : List (Key × V)} {d : List (PyData × PyData)}, RpD K H v d → RpD K H' v d
  | _, _, .nil => .nil
  | _, _, .cons h t => .cons (h.ke a) (t.ke a)
end
section
variable {K : PySem.W.Frag} {H H' : Hp}
theorem RpA.length : ∀ {vs : List V} {ds : List PyData}, RpA K H vs ds → vs.length = ds.length
  | _, _, .nil => rfl
  | _, _, .cons _ t => congrArg (· + 1) t.length
theorem RpA.append : ∀ {vs ws : List V} {ds es : List PyData}, RpA K H vs ds → RpA K H ws es → RpA K H (vs ++ ws) (ds ++ es)
  | _, _, _, _, .nil, b => b
  | _, _, _, _, .cons h t, b => .cons h (t.append b)
theorem RpA.snoc {vs : List V} {ds : List PyData} {v : V} {d : PyData} (h : RpA K H vs ds) (k : Rp K H v d) : RpA K H (vs ++ [v]) (ds ++ [d]) := h.append (.cons k .nil)
theorem RpA.get : ∀ {vs : List V} {ds : List PyData} {i : Nat} {v : V}, RpA K H vs ds → vs[i]? = some v → ∃ d, ds[i]? = some d ∧ Rp K H v d
  | _, _, _, _, .nil, e => by simp at e
  | _, _, 0, _, .cons h _, e => by simp at e; subst e; exact ⟨_, rfl, h⟩
  | _, _, i + 1, v, .cons _ t, e => by
    obtain ⟨d, h1, h2⟩ := RpA.get (i := i) (v := v) t (by simpa using e)
    exact ⟨d, by simpa using h1, h2⟩
theorem RpA.getD : ∀ {vs : List V} {ds : List PyData} {i : Nat} {d : PyData}, RpA K H vs ds → ds[i]? = some d → ∃ v, vs[i]? = some v ∧ Rp K H v d
  | _, _, _, _, .nil, e => by simp at e
  | _, _, 0, _, .cons h _, e => by simp at e; subst e; exact ⟨_, rfl, h⟩
  | _, _, i + 1, d, .cons _ t, e => by
    obtain ⟨v, h1, h2⟩ := RpA.getD (i := i) (d := d) t (by simpa using e)
    exact ⟨v, by simpa using h1, h2⟩
theorem RpD.length : ∀ {vs : List (Key × V)} {ds : List (PyData × PyData)}, RpD K H vs ds → vs.length = ds.length
  | _, _, .nil => rfl
  | _, _, .cons _ t => congrArg (· + 1) t.length
theorem rpA_ints : ∀ ns : List Int, RpA K H (ns.map V.int) (ns.map PyData.int)
  | [] => .nil
  | n :: r => .cons (.int n) (rpA_ints r)
theorem rpA_strs : ∀ ns : List Str, RpA K H (ns.map V.str) (ns.map PyData.str)
  | [] => .nil
  | n :: r => .cons (.str n) (rpA_strs r)
theorem rpA_bls : ∀ ns : List Bool, RpA K H (ns.map V.bl) (ns.map PyData.bool)
  | [] => .nil
  | n :: r => .cons (.bl n) (rpA_bls r)
end
mutual
/-- no dict within -/
def noD : PyData → Bool
  | .list xs => noDA xs
  | .tuple xs => noDA xs
  | .dict _ => false
  | _ => true
def noDA : List PyData → Bool
  | [] => true
  | x :: xs => noD x && noDA xs
end
mutual
theorem Rp.dp {K : PySem.W.Frag} {H : Hp} : ∀ {v : V} {d : PyData}, Rp K H v d → noD d = true → Dp K H v d
  | _, _, .non, _ => .non
  | _, _, .bl b, _ => .bl b
  | _, _, .int i, _ => .int i
  | _, _, .str x, _ => .str x
  | _, _, .lst h t, e => .lst (SqL.of h) (t.dp (by simpa [noD] using e))
  | _, _, .tup h t, e => .tup h (t.dp (by simpa [noD] using e))
  | _, _, .dct h t, e => by simp [noD] at e
theorem RpA.dp {K : PySem.W.Frag} {H : Hp} : ∀ {v : List V} {d : List PyData}, RpA K H v d → noDA d = true → DpAll K H v d
  | _, _, .nil, _ => .nil
  | _, _, .cons (d := d) (ds := ds) h t, e => by
    have e' : noD d = true ∧ noDA ds = true := by simpa [noDA] using e
    exact .cons (h.dp e'.1) (t.dp e'.2)
end

theorem noDA_ints : ∀ ns : List Int, noDA (ns.map PyData.int) = true
  | [] => by simp [noDA]
  | n :: r => by simp [noDA, noD, noDA_ints r]
theorem dp_ints {K : PySem.W.Frag} {H : Hp} {a : Addr} {ns : List Int} (h : H a = some (.lst (ns.map V.int))) : Dp K H (.ref a) (.list (ns.map .int)) := .lst (SqL.of h) ((rpA_ints ns).dp (noDA_ints ns))
theorem canLay_ints : ∀ ns : List Int, PyData.canLayAll0 (ns.map PyData.int) = true
  | [] => by simp [PyData.canLayAll0]
  | n :: r => by simp [PyData.canLayAll0, PyData.canLay0, canLay_ints r]
theorem depth_ints : ∀ ns : List Int, PyData.depthAll (ns.map PyData.int) = 0
  | [] => by simp [PyData.depthAll]
  | n :: r => by simp [PyData.depthAll, PyData.depth, depth_ints r]
theorem shaped_ints (ns : List Int) : SeqAt.shaped (.list (ns.map PyData.int)) = true := by
  simp [SeqAt.shaped, PyData.canLay0, canLay_ints, PyData.depth, depth_ints]

/-! ### streams -/
/-- a stream of draws: its list at st, the cells' list at sc; not more than B draws so far -/
def StrAt (B : Nat) (st sc : Addr) (H : Hp) : Prop := ∃ (cs : List Int) (b c : Int) (n : Nat), H st = some (.lst [.ref sc, .int b, .int n, .int c]) ∧ H sc = some (.lst (cs.map V.int)) ∧ 0 ≤ b ∧ 0 ≤ c ∧ c < 2147483629 ∧ n ≤ B
theorem StrAt.ne {B : Nat} {st sc : Addr} {H : Hp} (h : StrAt B st sc H) : st ≠ sc := by
  obtain ⟨cs, b, c, n, h1, h2, _⟩ := h
  intro e
  rw [e, h2] at h1
  have h1 := Option.some.inj h1
  injection h1 with h1
  cases cs with
  | nil => simp at h1
  | cons x r => simp at h1
theorem StrAt.mono {B B' : Nat} {st sc : Addr} {H : Hp} (h : StrAt B st sc H) (k : B ≤ B') : StrAt B' st sc H := by
  obtain ⟨cs, b, c, n, h1, h2, h3, h4, h5, h6⟩ := h
  exact ⟨cs, b, c, n, h1, h2, h3, h4, h5, Nat.le_trans h6 k⟩
theorem StrAt.kp {B : Nat} {st sc : Addr} {H H' : Hp} {T : List NTab} {l : List Addr} (h : StrAt B st sc H) (k : Kp T l H H') (h1 : st ∉ l) (h2 : sc ∉ l) : StrAt B st sc H' := by
  obtain ⟨cs, b, c, n, e1, e2, h3⟩ := h
  exact ⟨cs, b, c, n, k.lst h1 e1, k.lst h2 e2, h3⟩
theorem StrAt.ke {B : Nat} {st sc : Addr} {H H' : Hp} (h : StrAt B st sc H) (k : Ke H H') : StrAt B st sc H' := by
  obtain ⟨cs, b, c, n, e1, e2, h3⟩ := h
  exact ⟨cs, b, c, n, k _ _ e1 (fun _ z => by cases z), k _ _ e2 (fun _ z => by cases z), h3⟩
theorem StrAt.some {B : Nat} {st sc : Addr} {H : Hp} (h : StrAt B st sc H) : (∃ xs, H st = some (.lst xs)) ∧ ∃ xs, H sc = some (.lst xs) := by
  obtain ⟨cs, b, c, n, h1, h2, _⟩ := h
  exact ⟨⟨_, h1⟩, ⟨_, h2⟩⟩
end Sky
set_option Elab.async false
set_option linter.all false
set_option maxRecDepth 100000
set_option maxHeartbeats 4000000
/-! Sky B: built-in names, kinds of values, calls of own defs, while and for in short. -/
namespace Sky
open PySem PySem.Spec PyProof.Rows L2 LamX NdefX

/-- the built-in names that the module leaves alone -/
structure Blt (mg : Str → Option Value) : Prop where
  isinstance : mg "isinstance" = none
  len : mg "len" = none
  all : mg "all" = none
  any : mg "any" = none
  range : mg "range" = none
  enumerate : mg "enumerate" = none
  zip : mg "zip" = none
  sorted : mg "sorted" = none
  list : mg "list" = none
  tuple : mg "tuple" = none
  dict : mg "dict" = none
  int : mg "int" = none
  str : mg "str" = none
  bool : mg "bool" = none
  abs : mg "abs" = none
  min : mg "min" = none
  max : mg "max" = none
  sum : mg "sum" = none
  repr : mg "repr" = none

/-! ### kinds of values -/
inductive Tg where
  | non | bl | int | str | lst | tup | dct
  deriving DecidableEq
def Tg.name : Tg → String
  | .non => "NoneType" | .bl => "bool" | .int => "int" | .str => "str" | .lst => "list" | .tup => "tuple" | .dct => "dict"
/-- is one of this kind an instance of the built-in class of that kind -/
def Tg.isa : Tg → Tg → Bool
  | .bl, .int => true
  | a, b => decide (a = b)
inductive TgOf (K : PySem.W.Frag) (H : Hp) : V → Tg → Prop
  | non : TgOf K H .non .non
  | bl (b : Bool) : TgOf K H (.bl b) .bl
  | int (i : Int) : TgOf K H (.int i) .int
  | str (x : Str) : TgOf K H (.str x) .str
  | lst {a : Addr} {xs : List V} (h : SqL K H a xs) : TgOf K H (.ref a) .lst
  | tup {a : Addr} {xs : List V} (h : SqT K H a xs) : TgOf K H (.ref a) .tup
  | dK {a : Addr} {xs : List (Key × V)} (h : Rd H a (.dK xs)) : TgOf K H (.ref a) .dct
  | dT {a : Addr} {xs : List (List Key × V)} (h : H a = some (.dT xs)) : TgOf K H (.ref a) .dct
theorem TgOf.tyx {K : PySem.W.Frag} {H : Hp} {x : V} {g : Tg} (h : TgOf K H x g) : TyX K H x (.type g.name) := by
  cases h with
  | non => exact .base .non
  | bl b => exact .base (.bl b)
  | int i => exact .base (.int i)
  | str x => exact .base (.str x)
  | lst h =>
    rcases h with (h | ⟨o, h⟩) | ⟨o, its, n, e, c, _⟩
    · exact .base (.lst h)
    · exact .base (.frz h)
    · exact .kList e c
  | tup h =>
    rcases h with (h | ⟨o, h⟩) | ⟨o, its, n, e, c, _⟩
    · exact .base (.tup h)
    · exact .fTuple h
    · exact .kTuple e c
  | dK h =>
    rcases h with h | ⟨o, h⟩
    · exact .base (.dK h)
    · exact .fDict h
  | dT h => exact .base (.dT h)
theorem kit_tg {K : PySem.W.Frag} (a b : Tg) : PySem.W.kitOne K (.type a.name) (.type b.name) = some (a.isa b) := kit_ty (by revert a b; intro a b; cases a <;> cases b <;> decide +kernel)
theorem kit_tgs {K : PySem.W.Frag} (a : Tg) : ∀ bs : List Tg, PySem.W.kitAny K (.type a.name) (bs.map fun b => Value.type b.name) = some (bs.any a.isa)
  | [] => rfl
  | b :: bs => by
    rw [List.map_cons, List.any_cons]
    refine kitAny_cons (kit_tg a b) (fun h => ?_) fun h => ?_
    · rw [h, Bool.false_or]
      exact kit_tgs a bs
    · rw [h, Bool.true_or]
/-- the kind of data -/
def tgD : PyData → Tg
  | .none => .non | .bool _ => .bl | .int _ => .int | .str _ => .str | .list _ => .lst | .tuple _ => .tup | .dict _ => .dct
theorem Rp.tg {K : PySem.W.Frag} {H : Hp} {v : V} {d : PyData} (h : Rp K H v d) : TgOf K H v (tgD d) := by
  cases h with
  | non => exact .non
  | bl b => exact .bl b
  | int b => exact .int b
  | str b => exact .str b
  | lst h _ => exact .lst (SqL.of h)
  | tup h _ => exact .tup h
  | dct h _ => exact .dK (.inl h)

section
variable {X : Cx} {e : Expr} {es : List Expr} {t : TA} {p pos : Pos}
/-- isinstance(x, T), T a built-in class -/
def rIsi1 (K : PySem.W.Frag) : List V → Hp → VK → Prop := fun xs H Q => ∃ (x : V) (c g : Tg), xs = [x, .ty c.name] ∧ TgOf K H x g ∧ Q (.bl (g.isa c)) H
theorem cr_isi1 : CallR X (.builtin "isinstance") (rIsi1 X.K) := by
  intro pins s σ H xs us Q I r h
  obtain ⟨x, c, g, rfl, ty, q⟩ := h
  exact call_isi pins s σ H _ us Q I r ⟨x, .ty c.name, .type g.name, .type c.name, g.isa c, rfl, .ty _, ty.tyx, kit_tg g c, q⟩
/-- isinstance(x, (T, ..)), the tuple just made -/
def rIsiN (K : PySem.W.Frag) : List V → Hp → VK → Prop := fun xs H Q => ∃ (x : V) (tp : Addr) (cs : List Tg) (g : Tg), xs = [x, .ref tp] ∧ H tp = some (.tup (cs.map fun c => V.ty c.name)) ∧ TgOf K H x g ∧ Q (.bl (cs.any g.isa)) H
theorem paired_cls : ∀ cs : List Tg, Paired ClsV (cs.map fun c => V.ty c.name) (cs.map fun c => Value.type c.name)
  | [] => .nil
  | c :: cs => .cons (.ty _) (paired_cls cs)
theorem cr_isiN : CallR X (.builtin "isinstance") (rIsiN X.K) := by
  intro pins s σ H xs us Q I r h
  obtain ⟨x, tp, cs, g, rfl, hT, ty, q⟩ := h
  exact call_isiT pins s σ H _ us Q I r ⟨x, tp, _, .type g.name, _, cs.any g.isa, rfl, hT, paired_cls cs, ty.tyx, kit_tgs g cs, q⟩
theorem e_isi (B : Blt X.mg) (ha : PA X (e :: es) t) (hg : Gl X "isinstance" := by rfl) (hpl : (backTo pos (starEach es X.env)).any (·.1) = false := by rfl) (he : starEach (e :: es) X.env = (false, eval e X.env) :: starEach es X.env := by rfl) :
    PE X (.Call (.Name "isinstance" p) (e :: es) [] pos) (tCB (rIsi1 X.K) t) := pe_callB cr_isi1 hg B.isinstance (by decide +kernel) ha (by decide) (by decide) he hpl
theorem e_isiN (B : Blt X.mg) (ha : PA X (e :: es) t) (hg : Gl X "isinstance" := by rfl) (hpl : (backTo pos (starEach es X.env)).any (·.1) = false := by rfl) (he : starEach (e :: es) X.env = (false, eval e X.env) :: starEach es X.env := by rfl) :
    PE X (.Call (.Name "isinstance" p) (e :: es) [] pos) (tCB (rIsiN X.K) t) := pe_callB cr_isiN hg B.isinstance (by decide +kernel) ha (by decide) (by decide) he hpl
theorem e_ty (n : String) {x : Str} (hm : X.mg x = none) (hg : Gl X x := by rfl) (hv : bootBuiltins x = some (.type n) := by decide +kernel) (h1 : x ≠ "__name__" := by decide) (h2 : (x == ("__debug__" : Str)) = false := by decide) : PE X (.Name x pos) (tC (.ty n)) :=
  pe_bltn (v := .ty n) hg hm hv rfl h1 h2
/-- len of a text, a list, a tuple, a dict -/
def LenX (K : PySem.W.Frag) (x : V) (H : Hp) (n : Nat) : Prop :=
  match x with
  | .str y => y.length ≤ sizeLine ∧ n = y.length
  | .ref p => (∃ xs, SqL K H p xs ∧ n = xs.length) ∨ (∃ xs, SqT K H p xs ∧ n = xs.length) ∨ (∃ xs, H p = some (.dK xs) ∧ n = xs.length)
  | _ => False
theorem cr_lenX : CallR X (.builtin "len") (fun xs H Q => ∃ x n, xs = [x] ∧ LenX X.K x H n ∧ Q (.int n) H) := by
  intro pins s σ H xs us Q I r h
  obtain ⟨x, n, rfl, e, q⟩ := h
  cases x with
  | str y => exact call_len pins s σ H _ us Q I r ⟨_, n, rfl, e, q⟩
  | ref a =>
    rcases e with ⟨ys, h1, h2⟩ | ⟨ys, h1, h2⟩ | ⟨ys, h1, h2⟩
    · exact call_len pins s σ H _ us Q I r ⟨_, n, rfl, .inl ⟨ys, h1, h2⟩, q⟩
    · exact call_len pins s σ H _ us Q I r ⟨_, n, rfl, .inr ⟨ys, h1, h2⟩, q⟩
    · subst h2
      exact call_lenD pins s σ H _ us Q I r ⟨a, ys, rfl, h1, q⟩
  | _ => exact (show False from e).elim
abbrev rLenX (K : PySem.W.Frag) : List V → Hp → VK → Prop := fun xs H Q => ∃ x n, xs = [x] ∧ LenX K x H n ∧ Q (.int n) H
theorem e_len (B : Blt X.mg) (ha : PA X (e :: es) t) (hg : Gl X "len" := by rfl) (hpl : (backTo pos (starEach es X.env)).any (·.1) = false := by rfl) (he : starEach (e :: es) X.env = (false, eval e X.env) :: starEach es X.env := by rfl) :
    PE X (.Call (.Name "len" p) (e :: es) [] pos) (tCB (rLenX X.K) t) := pe_callB cr_lenX hg B.len (by decide +kernel) ha (by decide) (by decide) he hpl
theorem e_all (B : Blt X.mg) (ha : PA X (e :: es) t) (hc : X.calm = true := by rfl) (hg : Gl X "all" := by rfl) (hpl : (backTo pos (starEach es X.env)).any (·.1) = false := by rfl) (he : starEach (e :: es) X.env = (false, eval e X.env) :: starEach es X.env := by rfl) :
    PE X (.Call (.Name "all" p) (e :: es) [] pos) (tCB (rAll X.K) t) := pe_callB (cr_all hc) hg B.all (by decide +kernel) ha (by decide) (by decide) he hpl
theorem e_any (B : Blt X.mg) (ha : PA X (e :: es) t) (hc : X.calm = true := by rfl) (hg : Gl X "any" := by rfl) (hpl : (backTo pos (starEach es X.env)).any (·.1) = false := by rfl) (he : starEach (e :: es) X.env = (false, eval e X.env) :: starEach es X.env := by rfl) :
    PE X (.Call (.Name "any" p) (e :: es) [] pos) (tCB (rAny X.K) t) := pe_callB (cr_any hc) hg B.any (by decide +kernel) ha (by decide) (by decide) he hpl
abbrev rAbs : List V → Hp → VK → Prop := fun xs H Q => ∃ i, xs = [.int i] ∧ Q (.int (if i < 0 then -i else i)) H
theorem e_abs (B : Blt X.mg) (ha : PA X (e :: es) t) (hg : Gl X "abs" := by rfl) (hpl : (backTo pos (starEach es X.env)).any (·.1) = false := by rfl) (he : starEach (e :: es) X.env = (false, eval e X.env) :: starEach es X.env := by rfl) :
    PE X (.Call (.Name "abs" p) (e :: es) [] pos) (tCB rAbs t) := pe_callB call_abs hg B.abs (by decide +kernel) ha (by decide) (by decide) he hpl
abbrev rInt1 : List V → Hp → VK → Prop := fun xs H Q => (∃ i, xs = [.int i] ∧ Q (.int i) H) ∨ ∃ k, xs = [.bl k] ∧ Q (.int (if k then 1 else 0)) H
theorem e_int (B : Blt X.mg) (ha : PA X (e :: es) t) (hg : Gl X "int" := by rfl) (hpl : (backTo pos (starEach es X.env)).any (·.1) = false := by rfl) (he : starEach (e :: es) X.env = (false, eval e X.env) :: starEach es X.env := by rfl) :
    PE X (.Call (.Name "int" p) (e :: es) [] pos) (tCB rInt1 t) := pe_callTy call_int1 hg B.int (by decide +kernel) ha (by decide) (by decide) he hpl
/-- list(x) of a list, a tuple -/
abbrev rListOf (K : PySem.W.Frag) : List V → Hp → VK → Prop := fun xs H Q => ∃ p ys, xs = [.ref p] ∧ (SqL K H p ys ∨ SqT K H p ys) ∧ ∀ l, H l = none → Q (.ref l) (upd H l (.lst ys))
theorem e_list (B : Blt X.mg) (ha : PA X (e :: es) t) (hg : Gl X "list" := by rfl) (hpl : (backTo pos (starEach es X.env)).any (·.1) = false := by rfl) (he : starEach (e :: es) X.env = (false, eval e X.env) :: starEach es X.env := by rfl) :
    PE X (.Call (.Name "list" p) (e :: es) [] pos) (tCB (rListOf X.K) t) := pe_callTy call_list_of hg B.list (by decide +kernel) ha (by decide) (by decide) he hpl
end

/-! ### what always holds of the heap: sizes, keys -/
structure Szd (K : PySem.W.Frag) (H : Hp) : Prop where
  sl : ∀ a xs, SqL K H a xs → xs.length ≤ sizeLine
  st : ∀ a xs, SqT K H a xs → xs.length ≤ sizeLine
  sd : ∀ a kvs, H a = some (.dK kvs) → kvs.length ≤ sizeLine ∧ (kvs.map (·.1)).Nodup
theorem kv_keys {κ : Type} : ∀ {kvs : List (κ × V)} {vs : List (κ × Value)}, KV kvs vs → kvs.map (·.1) = vs.map (·.1)
  | _, _, .nil => rfl
  | _, _, .cons h t => by
    rw [List.map_cons, List.map_cons, h.1]
    exact congrArg _ (kv_keys t)
theorem inv_szd {X : Cx} {pins : List (Addr × Obj)} {σ : L2.St} {H : Hp} {s : Shared} (I : Inv X pins σ H s) : Szd X.K H := by
  refine ⟨fun a xs h => ?_, fun a xs h => ?_, fun a kvs h => ?_⟩
  · obtain ⟨_, _, _, z⟩ := I.list h
    exact z
  · obtain ⟨_, _, _, z⟩ := I.tuple h
    exact z
  · obtain ⟨z, _, vs, r, o, es, ep, _, _, _, _, _, nd⟩ : ObjOk X.prog X.w H s.heap a (.dK kvs) := I.hok a _ h
    rw [kv_keys r]
    exact ⟨z, nd⟩
def tSz (K : PySem.W.Frag) (t : TE) : TE := fun σ H Q => t σ H fun x H1 => Szd K H1 → Q x H1
theorem PE.sz {X : Cx} {e : Expr} {t : TE} (h : PE X e t) : PE X e (tSz X.K t) := by
  refine ⟨fun pins s σ H Q I q => thn (h.run pins s σ H _ I q) fun u s1 ⟨x, H1, I1, r1, q1⟩ => ⟨x, H1, I1, r1, q1 (inv_szd I1)⟩⟩

/-! ### own defs -/
/-- the def x of the module keeps the promise sp, by at most level k -/
structure DefOk (P : Program) (w : World) (K : PySem.W.Frag) (mg : Str → Option Value) (base : Heap) (k : Nat) (x : Str) (sp : Sp) : Prop where
  ex : ∃ (f : Addr) (fd : FuncData) (ps : List Str), FnOk P w K mg base CX0 k f fd ps sp ∧ mg x = some (.ref f) ∧ PySem.W.keepIn K (.ref f) = true ∧ Binds K fd ps []
/-- the def x stands in the module as st says -/
structure TopFn (K : PySem.W.Frag) (mg : Str → Option Value) (x : Str) (st : Stmt) : Prop where
  ex : ∃ (f : Addr) (fd : FuncData), Fun K x x st f fd ∧ mg x = some (.ref f)
section
variable {P : Program} {w : World} {K : PySem.W.Frag} {mg : Str → Option Value} {base : Heap} {x : Str} {st : Stmt} {N ps : List Str} {k j : Nat} {sp sp' : Sp}
theorem DefOk.mono (D : DefOk P w K mg base k x sp) (h : k ≤ j) : DefOk P w K mg base j x sp := by
  obtain ⟨f, fd, ps, F, r⟩ := D.ex
  exact ⟨f, fd, ps, F.mono h, r⟩
theorem DefOk.imp (D : DefOk P w K mg base k x sp) (h : ∀ vs H Q E, sp' vs H Q E → sp vs H Q E) : DefOk P w K mg base k x sp' := by
  obtain ⟨f, fd, ps, F, r⟩ := D.ex
  exact ⟨f, fd, ps, F.imp h, r⟩
theorem TopFn.ok (F : TopFn K mg x st) (S : FnScope N ps (defScope st))
    (hb : ∀ (kV doc pm : Value) (an : Option Addr) (cdv ct : Value) (us : List Value), us.length = ps.length → bindArgs (PySem.W.fnOf x x (defArgs st) (defBody st) (defScope st) .none kV doc pm an cdv ct) ⟨us, []⟩ = pure (ps.zip us))
    (len : ∀ vs H Q E, sp vs H Q E → vs.length = ps.length)
    (hbody : ∀ (f : Addr) (cdv : Value) (A : Around) (outer : List Env) (s : Shared) (H : Hp) (vs : List V) (Q : VK) (E : XK), Room k (A.deeper (envOfC x (defScope st) s.heap.objs.size f cdv)) → sp vs H Q E →
      ∃ t, PSs (cxOf CX0 P w K mg base N x (defScope st) f cdv A outer s H E).nox (defBody st) t ∧ t { nx := fun _ H' => Q .non H', rt := Q } (start N vs) H) : DefOk P w K mg base (k + 1) x sp := by
  obtain ⟨f, fd, F, hm⟩ := F.ex
  exact ⟨f, fd, ps, F.ok S len (hbody f), hm, F.kp, F.binds hb⟩
/-- the reading of a call -/
def tD (sp : Sp) (t : TA) : TE := fun σ H Q => t σ H fun vs H1 => sp vs H1 Q E0
theorem pe_d {X : Cx} {e : Expr} {es : List Expr} {t : TA} {p pos : Pos} (D : DefOk X.prog X.w X.K X.mg X.base k x sp) (hr : Room j X.A) (ha : PA X (e :: es) t) (hk : k ≤ j := by decide) (hg : Gl X x := by rfl)
    (hdb : (x == ("__debug__" : Str)) = false := by decide) (he : starEach (e :: es) X.env = (false, eval e X.env) :: starEach es X.env := by rfl) (hpl : (backTo pos (starEach es X.env)).any (·.1) = false := by rfl) :
    PE X (.Call (.Name x p) (e :: es) [] pos) (tD sp t) := by
  obtain ⟨f, fd, ps, F, hm, kp, b⟩ := D.ex
  have q := pe_call (dvs := []) (ds := []) (E := E0) (p := p) (pos := pos) F (hr.mono hk) hg hm kp b .nil pass0 ha hdb he hpl
  refine ⟨fun pins s σ H Q I h => q.run pins s σ H Q I ?_⟩
  have e0 : (fun (vs : List V) (H1 : Hp) => sp (vs ++ []) H1 Q E0) = fun vs H1 => sp vs H1 Q E0 := by
    funext vs H1
    rw [List.append_nil]
  show t σ H (fun vs H1 => sp (vs ++ []) H1 Q E0)
  rw [e0]
  exact h
end
end Sky
set_option Elab.async false
set_option linter.all false
set_option maxRecDepth 100000
set_option maxHeartbeats 4000000
namespace Sky
open PySem PySem.Spec PyProof.Rows L2 LamX NdefX
def top (i : Nat) : Stmt := PySem.Challenge.pw_skyhomes_k01_whole_spaces_told.main.body.getD i (.Pass ⟨0, 0, 0, 0⟩)
section
variable {P : Program} {w : World} {K : PySem.W.Frag} {mg : Str → Option Value} {base : Heap} {T : List NTab}

/-! ### _law_stream -/
abbrev s_stream : Stmt := top 18
theorem sc_stream : FnScope ["script"] ["script"] (defScope s_stream) := ⟨rfl, rfl, rfl, by decide +kernel, rfl, by decide +kernel, by decide +kernel⟩
def sp_stream (K : PySem.W.Frag) (T : List NTab) : Sp := fun vs H Q _ => ∃ (a : Addr) (ns : List Int), vs = [.ref a] ∧ SqL K H a (ns.map V.int) ∧
  ∀ st sc H', H st = none → H sc = none → Kp T [] H H' → StrAt 0 st sc H' → Q (.ref st) H'
theorem d_stream (B : Blt mg) (F : TopFn K mg "_law_stream" s_stream) : DefOk P w K mg base 1 "_law_stream" (sp_stream K T) := by
  refine F.ok sc_stream (fun _ _ _ _ _ _ us hl => match us, hl with | [_], _ => rfl) (fun vs H Q E h => ?_) (fun f cdv A outer s H vs Q E hr h => ?_)
  · obtain ⟨a, ns, rfl, _⟩ := h
    rfl
  · obtain ⟨a, ns, rfl, hS, k⟩ := h
    refine ⟨_, (pss_one (ps_ret (pe_lst (pa_cons (e_list B (pa_cons (pv 0) pa_nil)) (pa_cons pe_int (pa_cons pe_int (pa_cons pe_int pa_nil))))))), ?_⟩
    refine ⟨_, rfl, a, _, rfl, .inl hS, fun sc hsc => ⟨by show 4 ≤ sizeLine; decide, fun st hst => ?_⟩⟩
    have n1 : st ≠ sc := fun z => by
      rw [z, upd_same] at hst
      cases hst
    have hst0 : H st = none := by rw [upd_ne n1] at hst; exact hst
    refine k st sc _ hst0 hsc ((Kp.new hsc).trans (Kp.new hst)) ⟨ns, 0, 19, 0, upd_same, ?_, by decide, by decide, by decide, Nat.le_refl _⟩
    rw [upd_ne n1.symm, upd_same]

/-! ### _law_draw -/
abbrev s_draw : Stmt := top 19
theorem sc_draw : FnScope ["stream", "many", "cell", "digit", "mixed"] ["stream", "many"] (defScope s_draw) := ⟨rfl, rfl, rfl, by decide +kernel, rfl, by decide +kernel, by decide +kernel⟩
def sp_draw (K : PySem.W.Frag) (T : List NTab) : Sp := fun vs H Q _ => ∃ (st sc : Addr) (m : Int) (b : Nat), vs = [.ref st, .int m] ∧ StrAt b st sc H ∧ 0 < m ∧ m < 1073741824 ∧ b < 2 ^ 48 ∧
  ∀ (r : Int) H', 0 ≤ r → r < m → Kp T [st, sc] H H' → StrAt (b + 1) st sc H' → Q (.int r) H'
theorem d_draw (B : Blt mg) (F : TopFn K mg "_law_draw" s_draw) : DefOk P w K mg base 1 "_law_draw" (sp_draw K T) := by
  refine F.ok sc_draw (fun _ _ _ _ _ _ us hl => match us, hl with | [_, _], _ => rfl) (fun vs H Q E h => ?_) (fun f cdv A outer s H vs Q E hr h => ?_)
  · obtain ⟨st, sc, m, b, rfl, _⟩ := h
    rfl
  · obtain ⟨st, sc, m, b, rfl, hS, m0, m1, hb, k⟩ := h
    have hne := hS.ne
    obtain ⟨cs, d, c, n, h1, h2, d0, c0, c1, hn⟩ := hS
    refine ⟨_, (pss_cons (ps_asg (pe_op op_add (pe_ix ix_list (pv 0) pe_int (fun _ _ => rfl)) pe_int) (pg_sub (pv 0) pe_int set_list))
      (Evl.pss_cut (ps_while PassesOwn.never (pw_and (pt_cmpR op_eq (pe_ix ix_list (pv 0) pe_int (fun _ _ => rfl)) pe_int (nomark _)) (pw_and1 (pt_cmpR (op_neD hr.units) (pe_ix ix_list (pv 0) pe_int (fun _ _ => rfl)) (pe_lst pa_nil) (nomark _)))).pt (pss_cons (ps_set (i := 2) sc_draw.nd rfl (Or.inl rfl) (e_abs B (pa_cons (pe_bm PySem.F.plainAttrs_list PySem.F.slot_list_pop PySem.F.type_list_pop mt_popAt (pe_ix ix_list (pv 0) pe_int (fun _ _ => rfl)) (pa_cons pe_int pa_nil)) pa_nil)))
      (pss_cons (ps_asg (pe_op op_mod (e_int B (pa_cons (pe_op op_add (pe_op op_add (pe_op op_mul (pe_ix ix_list (pv 0) pe_int (fun _ _ => rfl)) pe_int) (pv 2)) pe_int) pa_nil)) pe_int) (pg_sub (pv 0) pe_int set_list))
      (pss_one (ps_asg (pe_ifExp (pt_cmpR op_ge (pv 2) (pe_op op_pow pe_int pe_int) (nomark _)) (pv 2) pe_int) (pg_sub (pv 0) pe_int set_list))))))
      (pss_cons (ps_if (pt_cmpR op_gt (pe_ix ix_list (pv 0) pe_int (fun _ _ => rfl)) pe_int (nomark _)) (pss_cons (ps_set (i := 3) sc_draw.nd rfl (Or.inl rfl) (pe_op op_mod (e_int B (pa_cons (pe_ix ix_list (pv 0) pe_int (fun _ _ => rfl)) pa_nil)) (pv 1)))
      (pss_cons (ps_asg (pe_op op_fdiv (pe_ix ix_list (pv 0) pe_int (fun _ _ => rfl)) (pv 1)) (pg_sub (pv 0) pe_int set_list))
      (pss_one (ps_ret (pv 3))))) pss_nil)
      (pss_cons (ps_set (i := 4) sc_draw.nd rfl (Or.inl rfl) (pe_op op_mod (e_int B (pa_cons (pe_op op_pow (pe_op op_add (pe_op op_add (pe_ix ix_list (pv 0) pe_int (fun _ _ => rfl)) (pe_op op_mul pe_int (pe_ix ix_list (pv 0) pe_int (fun _ _ => rfl)))) pe_int) pe_int) pa_nil)) pe_int))
      (pss_one (ps_ret (pe_op op_mod (pe_op op_mod (e_int B (pa_cons (pe_op op_pow (pe_op op_add (pe_op op_add (pe_op op_mul (pv 4) pe_int) (pe_op op_mul pe_int (pe_ix ix_list (pv 0) pe_int (fun _ _ => rfl)))) pe_int) pe_int) pa_nil)) pe_int) (pv 1)))))))), ?_⟩
    -- stream[2] = stream[2] + 1
    refine ⟨_, rfl, _, _, _, _, rfl, rfl, SqL.of h1, rfl, _, _, rfl, rfl, _, rfl, _, _, _, _, rfl, rfl, h1, rfl, ?_⟩
    -- the while
    have K1 : Kp T [st, sc] H (upd H st (.lst [.ref sc, .int d, .int ((n : Int) + 1), .int c])) := Kp.upd (by simp) h1
    refine ⟨fun σ H' => ∃ (cs : List Int) (d c : Int) (x : Option V), σ = [some (.ref st), some (.int m), x, none, none] ∧ H' st = some (.lst [.ref sc, .int d, .int ((n : Int) + 1), .int c]) ∧ H' sc = some (.lst (cs.map V.int)) ∧ 0 ≤ d ∧ 0 ≤ c ∧ c < 2147483629 ∧ Kp T [st, sc] H H',
      ⟨fun l σ H' => ∃ (cs : List Int) (d c : Int) (x : Option V), l = cs.length ∧ σ = [some (.ref st), some (.int m), x, none, none] ∧ H' st = some (.lst [.ref sc, .int d, .int ((n : Int) + 1), .int c]) ∧ H' sc = some (.lst (cs.map V.int)) ∧ 0 ≤ d ∧ 0 ≤ c ∧ c < 2147483629 ∧ Kp T [st, sc] H H',
        ⟨_, cs, d, c, none, rfl, rfl, upd_same, by rw [upd_ne hne.symm]; exact h2, d0, c0, c1, K1⟩, ?_⟩, ?_⟩
    · rintro l σ H1 ⟨cs, d, c, x, rfl, rfl, h1, h2, d0, c0, c1, K1⟩
      refine ⟨_, rfl, _, _, _, _, rfl, rfl, SqL.of h1, rfl, rfl, _, rfl, ?_⟩
      refine ite2 (fun hd => ?_) (fun hd => ?_)
      · refine ⟨_, rfl, _, _, _, _, rfl, rfl, SqL.of h1, rfl, Nat.zero_le _, fun p hp => ?_⟩
        have np1 : st ≠ p := ne_of_none h1 hp
        have np2 : sc ≠ p := ne_of_none h2 hp
        have h1' : upd H1 p (.lst []) st = some (.lst [.ref sc, .int d, .int ((n : Int) + 1), .int c]) := by rw [upd_ne np1]; exact h1
        have h2' : upd H1 p (.lst []) sc = some (.lst (cs.map V.int)) := by rw [upd_ne np2]; exact h2
        have K2 : Kp T [st, sc] H (upd H1 p (.lst [])) := K1.trans (Kp.new hp)
        refine ⟨_, _, dp_ints h2', dp_ints (ns := []) upd_same, shaped_ints _, shaped_ints _, _, rfl, ?_⟩
        cases cs with
        | nil => exact iteF ⟨[], d, c, x, rfl, h1', h2', d0, c0, c1, K2⟩
        | cons a r =>
          refine iteT ⟨fun σ H' => ∃ (d c : Int) (x : Option V), σ = [some (.ref st), some (.int m), x, none, none] ∧ H' st = some (.lst [.ref sc, .int d, .int ((n : Int) + 1), .int c]) ∧ H' sc = some (.lst (r.map V.int)) ∧ 0 ≤ d ∧ 0 ≤ c ∧ c < 2147483629 ∧ Kp T [st, sc] H H',
            fun σ' H' ⟨d, c, x, e1, e2, e3, e4⟩ => ⟨_, Nat.lt_succ_self _, r, d, c, x, rfl, e1, e2, e3, e4⟩, ?_⟩
          refine ⟨_, rfl, _, _, _, _, rfl, rfl, SqL.of h1', rfl, .inl ⟨rfl, _, SqL.of h2'⟩, sc, _, 0, 0, .int a, rfl, rfl, h2', by decide, by decide, by simp [seqIndex?], rfl, _, rfl, ?_⟩
          have g1 : upd (upd H1 p (.lst [])) sc (.lst (r.map V.int)) st = some (.lst [.ref sc, .int d, .int ((n : Int) + 1), .int c]) := by rw [upd_ne hne]; exact h1'
          have g2 : upd (upd H1 p (.lst [])) sc (.lst (r.map V.int)) sc = some (.lst (r.map V.int)) := upd_same
          have K3 : Kp T [st, sc] H (upd (upd H1 p (.lst [])) sc (.lst (r.map V.int))) := K2.trans (Kp.upd (by simp) h2')
          show (tSeq _ _) _ _ (upd (upd H1 p (.lst [])) sc (.lst (r.map V.int)))
          generalize upd (upd H1 p (.lst [])) sc (.lst (r.map V.int)) = H2 at g1 g2 K3 ⊢
          have ha : 0 ≤ (if a < 0 then -a else a) := by split <;> omega
          generalize (if a < 0 then -a else a) = a' at ha ⊢
          refine ⟨_, rfl, _, _, _, _, rfl, rfl, SqL.of g1, rfl, _, _, rfl, rfl, .inr ⟨by decide, by decide⟩, _, rfl, _, _, rfl, rfl, _, _, rfl, rfl, .inl ⟨_, rfl, _, _, rfl, rfl, (by decide : (0 : Int) < 2147483629), _, rfl, _, _, _, _, rfl, rfl, g1, rfl, ?_⟩⟩
          have e1 : 0 ≤ (c * 6151 + a' + 7) % 2147483629 := Int.emod_nonneg _ (by decide)
          have e2 : (c * 6151 + a' + 7) % 2147483629 < 2147483629 := Int.emod_lt_of_pos _ (by decide)
          have K4 : Kp T [st, sc] H (upd H2 st (.lst [.ref sc, .int d, .int ((n : Int) + 1), .int ((c * 6151 + a' + 7) % 2147483629)])) := K3.trans (Kp.upd (by simp) g1)
          refine ⟨_, rfl, _, _, rfl, rfl, ⟨by decide, by decide, by decide⟩, _, _, rfl, rfl, _, rfl, ?_⟩
          refine ite2 (fun _ => ?_) (fun _ => ?_)
          · refine ⟨_, rfl, _, rfl, _, _, _, _, rfl, rfl, upd_same, rfl, _, _, _, rfl, upd_same, ?_, ha, e1, e2, K4.trans (Kp.upd (by simp) upd_same)⟩
            rw [upd_ne hne.symm, upd_ne hne.symm]
            exact g2
          · refine ⟨_, rfl, _, _, _, _, rfl, rfl, upd_same, rfl, _, _, _, rfl, upd_same, ?_, Int.le_refl 0, e1, e2, K4.trans (Kp.upd (by simp) upd_same)⟩
            rw [upd_ne hne.symm, upd_ne hne.symm]
            exact g2
      · exact iteF ⟨cs, d, c, x, rfl, h1, h2, d0, c0, c1, K1⟩
    · rintro σ H1 ⟨cs, d, c, x, rfl, h1, h2, d0, c0, c1, K1⟩
      refine ⟨_, rfl, _, _, _, _, rfl, rfl, SqL.of h1, rfl, _, _, rfl, rfl, _, rfl, ?_⟩
      refine ite2 (fun hd => ?_) (fun hd => ?_)
      · have hd : 0 < d := of_decide_eq_true hd
        -- digit = int(stream[1]) % many
        refine ⟨_, rfl, _, _, _, _, rfl, rfl, SqL.of h1, rfl, .inl ⟨_, rfl, _, rfl, _, _, rfl, rfl, m0, ?_⟩⟩
        refine ⟨_, rfl, _, _, _, _, rfl, rfl, SqL.of h1, rfl, _, rfl, _, _, rfl, rfl, ⟨m0, m1⟩, _, rfl, _, _, _, _, rfl, rfl, h1, rfl, ?_⟩
        refine ⟨_, rfl, ?_⟩
        refine k _ _ (Int.emod_nonneg _ (by omega)) (Int.emod_lt_of_pos _ m0) (K1.trans (Kp.upd (by simp) h1)) ⟨cs, d / m, c, n + 1, upd_same, by rw [upd_ne hne.symm]; exact h2, Int.ediv_nonneg d0 (by omega), c0, c1, by omega⟩
      · -- mixed
        have q1 : (c + 8191 * ((n : Int) + 1) + 50021).natAbs < 2 ^ 64 := by omega
        refine ⟨_, rfl, _, _, _, _, rfl, rfl, SqL.of h1, rfl, _, rfl, _, _, _, _, rfl, rfl, SqL.of h1, rfl, _, _, rfl, rfl, .inl ⟨by decide, by decide⟩, _, _, rfl, rfl, _, _, rfl, rfl, _, _, rfl, rfl, ⟨by decide, by decide, q1⟩, .inl ⟨_, rfl, _, _, rfl, rfl, (by decide : (0 : Int) < 2147483587), ?_⟩⟩
        have e1 := Int.emod_nonneg ((c + 8191 * ((n : Int) + 1) + 50021) ^ (5 : Int).toNat) (by decide : (2147483587 : Int) ≠ 0)
        have e2 := Int.emod_lt_of_pos ((c + 8191 * ((n : Int) + 1) + 50021) ^ (5 : Int).toNat) (by decide : (0 : Int) < 2147483587)
        have q2 : ∀ y : Int, 0 ≤ y → y < 2147483587 → (y * 40009 + 20011 * ((n : Int) + 1) + 31).natAbs < 2 ^ 64 := by intro y; omega
        refine ⟨_, rfl, _, _, rfl, rfl, .inr ⟨by decide, by decide⟩, _, rfl, _, _, _, _, rfl, rfl, SqL.of h1, rfl, _, _, rfl, rfl, .inl ⟨by decide, by decide⟩, _, _, rfl, rfl, _, _, rfl, rfl, _, _, rfl, rfl, ⟨by decide, by decide, q2 _ e1 e2⟩, .inl ⟨_, rfl, _, _, rfl, rfl, (by decide : (0 : Int) < 1000000009), _, rfl, _, _, rfl, rfl, m0, ?_⟩⟩
        exact k _ _ (Int.emod_nonneg _ (by omega)) (Int.emod_lt_of_pos _ m0) K1 ⟨cs, d, c, n + 1, h1, h2, d0, c0, c1, by omega⟩

/-! ### _law_pick -/
abbrev s_pick : Stmt := top 20
theorem sc_pick : FnScope ["stream", "things"] ["stream", "things"] (defScope s_pick) := ⟨rfl, rfl, rfl, by decide +kernel, rfl, by decide +kernel, by decide +kernel⟩
/-- of a list, a tuple, a text -/
def Item (K : PySem.W.Frag) (H : Hp) (x : V) (n : Nat) (f : Nat → V) : Prop :=
  (∃ a xs, x = .ref a ∧ (SqL K H a xs ∨ SqT K H a xs) ∧ xs.length = n ∧ ∀ i v, xs[i]? = some v → f i = v) ∨
  (∃ z : Str, x = .str z ∧ z.length = n ∧ n ≤ sizeLine ∧ ∀ i c, z.cps.toList[i]? = some c → f i = .str ⟨#[c]⟩)
def sp_pick (K : PySem.W.Frag) (T : List NTab) : Sp := fun vs H Q _ => ∃ (st sc : Addr) (x : V) (b n : Nat) (f : Nat → V), vs = [.ref st, x] ∧ StrAt b st sc H ∧ b < 2 ^ 48 ∧ Item K (off [st, sc] H) x n f ∧ 0 < n ∧ n < 1073741824 ∧
  ∀ (i : Nat) H', i < n → Kp T [st, sc] H H' → StrAt (b + 1) st sc H' → Q (f i) H'
theorem d_pick (B : Blt mg) (Gd : DefOk P w K mg base 1 "_law_draw" (sp_draw K T)) (F : TopFn K mg "_law_pick" s_pick) : DefOk P w K mg base 2 "_law_pick" (sp_pick K T) := by
  refine F.ok sc_pick (fun _ _ _ _ _ _ us hl => match us, hl with | [_, _], _ => rfl) (fun vs H Q E h => ?_) (fun f cdv A outer s H vs Q E hr h => ?_)
  · obtain ⟨st, sc, x, b, n, g, rfl, _⟩ := h
    rfl
  · obtain ⟨st, sc, x, b, n, g, rfl, hS, hb, hI, n0, n1, k⟩ := h
    refine ⟨_, (pss_one (ps_ret (pe_ix ix_seq (pv 1) (pe_d Gd hr (pa_cons (pv 0) (pa_cons (e_len B (pa_cons (pv 1) pa_nil)) pa_nil))) (fun _ _ => rfl)))), ?_⟩
    rcases hI with ⟨a, xs, rfl, ha, hn, hg⟩ | ⟨z, rfl, hn, hz, hg⟩
    · have hlen : LenX K (.ref a) H n := by
        rcases ha with ha | ha
        · exact .inl ⟨xs, Ke.off.lq ha, hn.symm⟩
        · exact .inr (.inl ⟨xs, Ke.off.tq ha, hn.symm⟩)
      refine ⟨_, rfl, _, rfl, _, rfl, _, n, rfl, hlen, st, sc, (n : Int), b, rfl, hS, by omega, by omega, hb, fun r H' r0 r1 K1 S1 => ?_⟩
      obtain ⟨i, rfl⟩ : ∃ i : Nat, r = (i : Int) := ⟨r.toNat, by omega⟩
      have hi : i < xs.length := by omega
      have ei : xs[i]? = some xs[i] := by simp [hi]
      have q := k i H' (by omega) K1 S1
      rw [hg i _ ei] at q
      rcases ha with ha | ha
      · exact .inl ⟨a, xs, _, _, rfl, rfl, Ke.off.lq (K1.ke.lq ha), atI_nat ei, q⟩
      · exact .inr (.inl ⟨a, xs, _, _, rfl, rfl, Ke.off.tq (K1.ke.tq ha), atI_nat ei, q⟩)
    · refine ⟨_, rfl, _, rfl, _, rfl, _, n, rfl, ⟨by omega, hn.symm⟩, st, sc, (n : Int), b, rfl, hS, by omega, by omega, hb, fun r H' r0 r1 K1 S1 => ?_⟩
      obtain ⟨i, rfl⟩ : ∃ i : Nat, r = (i : Int) := ⟨r.toNat, by omega⟩
      have hi : i < z.cps.toList.length := by
        have : z.cps.toList.length = z.length := by simp [Str.length]
        omega
      have ei : z.cps.toList[i]? = some z.cps.toList[i] := by simp [hi]
      have q := k i H' (by omega) K1 S1
      rw [hg i _ ei] at q
      exact .inr (.inr ⟨z, _, _, rfl, rfl, by omega, atI_nat ei, q⟩)
end
end Sky
set_option Elab.async false
set_option linter.all false
set_option maxRecDepth 100000
set_option maxHeartbeats 4000000
/-! Sky C: walks of lists and tuples, comprehensions that grow data, list(..), tuple(..), dict(..). -/
namespace Sky
open PySem PySem.Spec PyProof.Rows L2 LamX NdefX

/-! ### a walk of a list or a tuple -/
/-- a list (true), a tuple (false) -/
def SqB (t : Bool) (K : PySem.W.Frag) (H : Hp) (a : Addr) (xs : List V) : Prop := match t with
  | true => SqL K H a xs
  | false => SqT K H a xs
theorem SqB.ke {t : Bool} {K : PySem.W.Frag} {H H' : Hp} {a : Addr} {xs : List V} (h : SqB t K H a xs) (k : Ke H H') : SqB t K H' a xs := by
  cases t with
  | true => exact k.lq h
  | false => exact k.tq h
theorem SqB.or {t : Bool} {K : PySem.W.Frag} {H : Hp} {a : Addr} {xs : List V} (h : SqB t K H a xs) : SqL K H a xs ∨ SqT K H a xs := by
  cases t with
  | true => exact .inl h
  | false => exact .inr h
theorem SqB.tg {t : Bool} {K : PySem.W.Frag} {H : Hp} {a : Addr} {xs : List V} (h : SqB t K H a xs) : TgOf K H (.ref a) (if t then .lst else .tup) := by
  cases t with
  | true => exact .lst h
  | false => exact .tup h
theorem SqB.len {t : Bool} {K : PySem.W.Frag} {H : Hp} {a : Addr} {xs : List V} (h : SqB t K H a xs) : LenX K (.ref a) H xs.length := by
  cases t with
  | true => exact .inl ⟨xs, h, rfl⟩
  | false => exact .inr (.inl ⟨xs, h, rfl⟩)
def iSeq (K : PySem.W.Frag) (tl : TE) : TI := fun σ H R => tl σ H fun x H1 => ∃ a xs t, x = .ref a ∧ SqB t K H1 a xs ∧
  ∀ (J : It) (G : Hp → Prop), xs.length ≤ sizeLine → Walk J xs.length G (YAt xs) → (∀ H', SqB t K H' a xs → G H') → R J H1
theorem pi_seq {X : Cx} {tg l : Expr} {tl : TE} (hl : PE X l tl) : PI X tg l (iSeq X.K tl) := by
  refine ⟨fun pins s σ H R I h => ?_⟩
  refine thn (hl.run pins s σ H _ I h) fun v s1 ⟨x, H1, I1, r1, q1⟩ => ?_
  obtain ⟨a, xs, t, e, hq, q⟩ := q1
  subst e
  cases t with
  | true =>
    have hq : SqL X.K H1 a xs := hq
    have q := q _ _ ((inv_szd I1).sl _ _ hq) walk_list fun H' e => e
    cases r1
    obtain ⟨its, rv, p, hz⟩ := I1.list hq
    refine wpAny_pyIter_list p.isList ?_
    refine ⟨s1.heap.objs.size, [s1.heap.objs.size], _, _, H1, rfl, I1.kept (t' := s1.toks) fun b o e => Heap.get?_push_of_some _ e, turn_list a _, ⟨_, Heap.get?_push_size _ rfl, rfl, rfl⟩, fun b hb => ?_, q⟩
    have e : b = s1.heap.objs.size := by simpa using hb
    subst e
    exact I1.fpOk (Nat.le_refl _) (I1.hok.fresh (Nat.le_refl _))
  | false =>
    have hq : SqT X.K H1 a xs := hq
    have q := q _ _ ((inv_szd I1).st _ _ hq) walk_tup fun H' e => e
    cases r1
    obtain ⟨its, rv, p, hz⟩ := I1.tuple hq
    refine wpAny_pyIter_tuple (show s1.heap.IsTuple a its.toArray from p) ?_
    refine ⟨s1.heap.objs.size, [s1.heap.objs.size], _, _, H1, rfl, I1.kept (t' := s1.toks) fun b o e => Heap.get?_push_of_some _ e, turn_tuple a _, ⟨_, Heap.get?_push_size _ rfl, rfl, rfl⟩, fun b hb => ?_, q⟩
    have e : b = s1.heap.objs.size := by simpa using hb
    subst e
    exact I1.fpOk (Nat.le_refl _) (I1.hok.fresh (Nat.le_refl _))

/-! ### a comprehension that grows its list -/
theorem Ke.off2 {l m : List Addr} {H : Hp} : Ke (Sky.off l (Sky.off m H)) (Sky.off l H) := fun _ _ e _ => off_some (of_off e).1 (of_off (of_off e).2).2
theorem StrAt.off {B : Nat} {st sc D : Addr} {H : Hp} (h : StrAt B st sc H) (h1 : D ≠ st) (h2 : D ≠ sc) : StrAt B st sc (Sky.off [D] H) := by
  obtain ⟨cs, b, c, n, e1, e2, h3⟩ := h
  exact ⟨cs, b, c, n, off_some (by simp [h1.symm]) e1, off_some (by simp [h2.symm]) e2, h3⟩
theorem StrAt.of_off {B : Nat} {st sc : Addr} {l : List Addr} {H : Hp} (h : StrAt B st sc (Sky.off l H)) : StrAt B st sc H := h.ke Ke.off
/-- what is away from a new place does not see it -/
theorem Ke.offN {l : List Addr} {D : Addr} {H1 H' : Hp} {T : List NTab} (k : Kp T (D :: l) H1 H') (h : H1 D = none) : Ke (Sky.off l H1) (Sky.off l (Sky.off [D] H')) := fun b o e n => by
  have h1 := of_off e
  have nb : b ≠ D := fun z => by rw [z, h] at h1; cases h1.2
  exact off_some h1.1 (off_some (by simp [nb]) (k.k b o (by simp [nb, h1.1]) h1.2 n))
theorem off_off {l m : List Addr} {H : Hp} : Sky.off l (Sky.off m H) = Sky.off (m ++ l) H := by
  funext b
  unfold Sky.off
  by_cases h : b ∈ l
  · rw [if_pos h, if_pos (List.mem_append_right _ h)]
  · rw [if_neg h]
    by_cases h2 : b ∈ m
    · rw [if_pos h2, if_pos (List.mem_append_left _ h2)]
    · rw [if_neg h2, if_neg (by simp [h, h2])]
/-- what is hidden: the stream among it, all of it there -/
structure Hid (l : List Addr) (st sc : Addr) (H : Hp) : Prop where
  st : st ∈ l
  sc : sc ∈ l
  there : ∀ a ∈ l, H a ≠ none
theorem Hid.kp {l : List Addr} {st sc : Addr} {H H' : Hp} {T : List NTab} {m : List Addr} (h : Hid l st sc H) (k : Kp T m H H') : Hid l st sc H' := ⟨h.st, h.sc, fun a ha e => h.there a ha (k.n a e)⟩
theorem Hid.cons {l : List Addr} {st sc D : Addr} {H : Hp} (h : Hid l st sc H) (k : H D ≠ none) : Hid (D :: l) st sc H := ⟨List.mem_cons_of_mem _ h.st, List.mem_cons_of_mem _ h.sc, fun a ha => by
  rcases List.mem_cons.mp ha with rfl | ha
  · exact k
  · exact h.there a ha⟩
theorem Hid.new {l : List Addr} {st sc p : Addr} {H : Hp} (h : Hid l st sc H) (k : H p = none) : p ∉ l := fun z => h.there p z k
/-- a change at the stream is none of what is hidden with it -/
theorem Hid.ke {l : List Addr} {st sc : Addr} {H H' : Hp} {T : List NTab} (h : Hid l st sc H) (k : Kp T [st, sc] H H') : Ke (Sky.off l H) (Sky.off l H') := (k.mono (by simp [h.st, h.sc])).ke
theorem off_upd {D : Addr} {H : Hp} {o : HO} : off [D] (upd H D o) = off [D] H := by
  funext b
  unfold off
  by_cases h : b = D
  · rw [if_pos (by simp [h]), if_pos (by simp [h])]
  · rw [if_neg (by simp [h]), if_neg (by simp [h]), upd_ne h]
section
variable {K : PySem.W.Frag} {J : It} {n : Nat} {G : Hp → Prop} {Y : Nat → Hp → V → Hp → Prop} {g : TG} {tt : TT} {te : TE} {vs : List Nat} {σ : L2.St} {H1 : Hp} {D : Addr} {Qd : Hp → Prop}
/-- R: what holds behind i turns of the list so far and of the heap without the list -/
theorem lc_acc (W : Walk J n G Y) (T : List NTab) (l : List Addr) (hD : H1 D = none) (hDl : D ∉ l) (hn : n ≤ sizeLine) (R : Nat → List V → Hp → Prop) (h0 : R 0 [] (off [D] H1))
    (hG : ∀ H', Kp T (D :: l) H1 H' → G H')
    (hs : ∀ (i : Nat) (x : V) (acc : List V) (H' H'' : Hp) (Q : VK) (Qn : Hp → Prop), i < n → acc.length ≤ i → Kp T (D :: l) H1 H' → H' D = some (.lst acc) → R i acc (off [D] H') → Y i H' x H'' →
      (∀ y H3, Kp T l H' H3 → R (i + 1) (acc ++ [y]) (off [D] H3) → Q y H3) → (∀ H3, Kp T l H' H3 → R (i + 1) acc (off [D] H3) → Qn H3) →
      g x (wipe σ vs) H'' fun σ2 H2 => wipe σ2 vs = wipe σ vs ∧ tt σ2 H2 fun b H3 => if b = true then te σ2 H3 Q else Qn H3)
    (hd : ∀ H' acc, Kp T (D :: l) H1 H' → R n acc (off [D] H') → H' D = some (.lst acc) → acc.length ≤ n → Qd H') :
    ∃ W : Nat → Nat → Hp → Prop, (∃ m, W 0 m (upd H1 D (.lst []))) ∧ ∀ i m H, W i m H →
      (J.stop i H ∧ Qd H) ∨ (J.go i H ∧ ∃ Nx : Hp → Prop, (∀ H', Nx H' → ∃ m', m' < m ∧ W (i + 1) m' H') ∧ ∀ x H', J.yld i H x H' → g x (wipe σ vs) H' fun σ2 H2 => wipe σ2 vs = wipe σ vs ∧ tt σ2 H2 fun b H3 =>
        if b = true then te σ2 H3 fun y H4 => ∃ acc, H4 D = some (.lst acc) ∧ acc.length < sizeLine ∧ Nx (upd H4 D (.lst (acc ++ [y]))) else Nx H3) := by
  refine lc_it W (fun i H' => Kp T (D :: l) H1 H' ∧ ∃ acc, H' D = some (.lst acc) ∧ acc.length ≤ i ∧ R i acc (off [D] H')) ⟨(Kp.new hD).trans Kp.refl, [], upd_same, Nat.le_refl _, by rw [off_upd]; exact h0⟩ (fun i H' _ p => hG H' p.1) (fun i x H' H'' hi p y => ?_) fun H' p => ?_
  · obtain ⟨k1, acc, h1, h2, h3⟩ := p
    refine hs i x acc H' H'' (fun y H4 => ∃ acc, H4 D = some (.lst acc) ∧ acc.length < sizeLine ∧ Kp T (D :: l) H1 (upd H4 D (.lst (acc ++ [y]))) ∧ ∃ acc', upd H4 D (.lst (acc ++ [y])) D = some (.lst acc') ∧ acc'.length ≤ i + 1 ∧ R (i + 1) acc' (off [D] (upd H4 D (.lst (acc ++ [y])))))
      (fun H4 => Kp T (D :: l) H1 H4 ∧ ∃ acc', H4 D = some (.lst acc') ∧ acc'.length ≤ i + 1 ∧ R (i + 1) acc' (off [D] H4)) hi h2 k1 h1 h3 y (fun y H3 k3 r3 => ?_) fun H3 k3 r3 => ?_
    · have hD3 : H3 D = some (.lst acc) := k3.lst hDl h1
      have k3' : Kp T (D :: l) H' H3 := k3.mono fun x hx => List.mem_cons_of_mem _ hx
      refine ⟨acc, hD3, by omega, k1.trans (k3'.trans (Kp.upd (by simp) hD3)), _, upd_same, by rw [List.length_append, List.length_singleton]; omega, by rw [off_upd]; exact r3⟩
    · have k3' : Kp T (D :: l) H' H3 := k3.mono fun x hx => List.mem_cons_of_mem _ hx
      exact ⟨k1.trans k3', acc, k3.lst hDl h1, by omega, r3⟩
  · obtain ⟨k1, acc, h1, h2, h3⟩ := p
    exact hd H' acc k1 h3 h1 h2
end
section
variable {X : Cx} {e : Expr} {es : List Expr} {t : TA} {p pos : Pos}
/-- list(x) of a list, a tuple, a dict -/
abbrev rListX (K : PySem.W.Frag) : List V → Hp → VK → Prop := fun xs H Q => rListOf K xs H Q ∨ rListD xs H Q
theorem e_listX (B : Blt X.mg) (ha : PA X (e :: es) t) (hc : X.calm = true := by rfl) (hg : Gl X "list" := by rfl) (hpl : (backTo pos (starEach es X.env)).any (·.1) = false := by rfl) (he : starEach (e :: es) X.env = (false, eval e X.env) :: starEach es X.env := by rfl) :
    PE X (.Call (.Name "list" p) (e :: es) [] pos) (tCB (rListX X.K) t) := pe_callTy (call_list_of.or (call_list_dK hc)) hg B.list (by decide +kernel) ha (by decide) (by decide) he hpl
abbrev rTupOf (K : PySem.W.Frag) : List V → Hp → VK → Prop := fun xs H Q => ∃ p ys, xs = [.ref p] ∧ ((SqL K H p ys ∧ ∀ l, H l = none → Q (.ref l) (upd H l (.tup ys))) ∨ (SqT K H p ys ∧ Q (.ref p) H))
theorem e_tuple (B : Blt X.mg) (ha : PA X (e :: es) t) (hg : Gl X "tuple" := by rfl) (hpl : (backTo pos (starEach es X.env)).any (·.1) = false := by rfl) (he : starEach (e :: es) X.env = (false, eval e X.env) :: starEach es X.env := by rfl) :
    PE X (.Call (.Name "tuple" p) (e :: es) [] pos) (tCB (rTupOf X.K) t) := pe_callTy call_tuple_of hg B.tuple (by decide +kernel) ha (by decide) (by decide) he hpl
abbrev rDictP (K : PySem.W.Frag) : List V → Hp → VK → Prop := fun xs H Q => ∃ (a : Addr) (ps : List Addr) (kvs : List (Key × V)), xs = [.ref a] ∧ SqL K H a (ps.map V.ref) ∧ Paired (fun p kv => SqT K H p [kV kv.1, kv.2]) ps kvs ∧
    ∀ p, H p = none → Q (.ref p) (upd H p (.dK (mergeK [] kvs)))
theorem e_dict (B : Blt X.mg) (ha : PA X (e :: es) t) (hc : X.calm = true := by rfl) (hg : Gl X "dict" := by rfl) (hpl : (backTo pos (starEach es X.env)).any (·.1) = false := by rfl) (he : starEach (e :: es) X.env = (false, eval e X.env) :: starEach es X.env := by rfl) :
    PE X (.Call (.Name "dict" p) (e :: es) [] pos) (tCB (rDictP X.K) t) := pe_callTy (call_dictP hc) hg B.dict (by decide +kernel) ha (by decide) (by decide) he hpl
/-- {}: of keys that are numbers and texts, or tuples of such, as the reading chooses -/
def tDNew : TE := fun σ H Q => tDNewK σ H Q ∨ tDNewT σ H Q
theorem pe_dnew : PE X (.Dict [] [] pos) tDNew := ⟨fun pins s σ H Q I h => h.elim (fun h => pe_dnewK.run pins s σ H Q I h) fun h => pe_dnewT.run pins s σ H Q I h⟩
end
end Sky
set_option Elab.async false
set_option linter.all false
set_option maxRecDepth 100000
set_option maxHeartbeats 4000000
/-! Sky D: trees of lists, tuples, dicts that belong to one alone. -/
namespace Sky
open PySem PySem.Spec PyProof.Rows L2 LamX NdefX
/-- no address in both -/
def Dj (as bs : List Addr) : Prop := ∀ a ∈ as, a ∉ bs
theorem Dj.symm {as bs : List Addr} (h : Dj as bs) : Dj bs as := fun a ha hb => h a hb ha
/-- a plain value -/
def sclV : V → Bool
  | .non | .bl _ | .int _ | .str _ => true
  | _ => false
mutual
/-- a tree at v, at most n deep, whose lists and dicts are at as -/
inductive Ow (K : PySem.W.Frag) (H : Hp) : V → Nat → List Addr → Prop
  | leaf {v : V} {n : Nat} : sclV v = true → Ow K H v n []
  | lst {a : Addr} {xs : List V} {n : Nat} {as : List Addr} : H a = some (.lst xs) → xs.length ≤ 1000000 → OwA K H xs n as → a ∉ as → Ow K H (.ref a) (n + 1) (a :: as)
  | tup {a : Addr} {xs : List V} {n : Nat} {as : List Addr} : SqT K H a xs → OwA K H xs n as → Ow K H (.ref a) (n + 1) as
  | dct {a : Addr} {kvs : List (Key × V)} {n : Nat} {as : List Addr} : H a = some (.dK kvs) → kvs.length ≤ 1000000 → OwA K H (kvs.map (·.2)) n as → a ∉ as → Ow K H (.ref a) (n + 1) (a :: as)
inductive OwA (K : PySem.W.Frag) (H : Hp) : List V → Nat → List Addr → Prop
  | nil {n : Nat} : OwA K H [] n []
  | cons {v : V} {vs : List V} {n : Nat} {as bs : List Addr} : Ow K H v n as → OwA K H vs n bs → Dj as bs → OwA K H (v :: vs) n (as ++ bs)
end
section
variable {K : PySem.W.Frag} {H H' : Hp}
mutual
theorem Ow.kind : ∀ {v : V} {n : Nat} {as : List Addr}, Ow K H v n as → ∀ a ∈ as, (∃ xs, H a = some (.lst xs)) ∨ ∃ kvs, H a = some (.dK kvs)
  | _, _, _, .leaf _, a, h => by cases h
  | _, _, _, .lst h1 _ h2 _, a, h => by
    rcases List.mem_cons.mp h with rfl | h
    · exact .inl ⟨_, h1⟩
    · exact h2.kind a h
  | _, _, _, .tup h1 h2, a, h => h2.kind a h
  | _, _, _, .dct h1 _ h2 _, a, h => by
    rcases List.mem_cons.mp h with rfl | h
    · exact .inr ⟨_, h1⟩
    · exact h2.kind a h
theorem OwA.kind : ∀ {v : List V} {n : Nat} {as : List Addr}, OwA K H v n as → ∀ a ∈ as, (∃ xs, H a = some (.lst xs)) ∨ ∃ kvs, H a = some (.dK kvs)
  | _, _, _, .nil, a, h => by cases h
  | _, _, _, .cons h1 h2 _, a, h => by
    rcases List.mem_append.mp h with h | h
    · exact h1.kind a h
    · exact h2.kind a h
end
mutual
theorem Ow.deep : ∀ {v : V} {n m : Nat} {as : List Addr}, Ow K H v n as → n ≤ m → Ow K H v m as
  | _, _, _, _, .leaf h, _ => .leaf h
  | _, _, m + 1, _, .lst h1 hz h2 h3, h => .lst h1 hz (h2.deep (Nat.le_of_succ_le_succ h)) h3
  | _, _, m + 1, _, .tup h1 h2, h => .tup h1 (h2.deep (Nat.le_of_succ_le_succ h))
  | _, _, m + 1, _, .dct h1 hz h2 h3, h => .dct h1 hz (h2.deep (Nat.le_of_succ_le_succ h)) h3
theorem OwA.deep : ∀ {v : List V} {n m : Nat} {as : List Addr}, OwA K H v n as → n ≤ m → OwA K H v m as
  | _, _, _, _, .nil, _ => .nil
  | _, _, _, _, .cons h1 h2 h3, h => .cons (h1.deep h) (h2.deep h) h3
end
mutual
/-- it stays where its lists and dicts, and the tuples, stay -/
theorem Ow.stay (e : ∀ b o, H b = some o → (∀ ps, o ≠ .tbl ps) → (∀ xs, o ≠ .lst xs) → (∀ xs, o ≠ .dK xs) → H' b = some o) : ∀ {v : V} {n : Nat} {as : List Addr}, Ow K H v n as → (∀ a ∈ as, H' a = H a) → Ow K H' v n as
  | _, _, _, .leaf h, _ => .leaf h
  | _, _, _, .lst h1 hz h2 h3, h => .lst ((h _ (List.mem_cons_self ..)).trans h1) hz (h2.stay e fun a ha => h a (List.mem_cons_of_mem _ ha)) h3
  | _, _, _, .tup h1 h2, h => by
    refine .tup ?_ (h2.stay e h)
    rcases h1 with (h1 | ⟨o, h1⟩) | h1
    · exact .inl (.inl (e _ _ h1 (fun _ z => by cases z) (fun _ z => by cases z) (fun _ z => by cases z)))
    · exact .inl (.inr ⟨o, e _ _ h1 (fun _ z => by cases z) (fun _ z => by cases z) (fun _ z => by cases z)⟩)
    · exact .inr h1
  | _, _, _, .dct h1 hz h2 h3, h => .dct ((h _ (List.mem_cons_self ..)).trans h1) hz (h2.stay e fun a ha => h a (List.mem_cons_of_mem _ ha)) h3
theorem OwA.stay (e : ∀ b o, H b = some o → (∀ ps, o ≠ .tbl ps) → (∀ xs, o ≠ .lst xs) → (∀ xs, o ≠ .dK xs) → H' b = some o) : ∀ {v : List V} {n : Nat} {as : List Addr}, OwA K H v n as → (∀ a ∈ as, H' a = H a) → OwA K H' v n as
  | _, _, _, .nil, _ => .nil
  | _, _, _, .cons h1 h2 h3, h => .cons (h1.stay e fun a ha => h a (List.mem_append_left _ ha)) (h2.stay e fun a ha => h a (List.mem_append_right _ ha)) h3
end
/-- what changes at l alone leaves it, if l are lists and dicts apart from it -/
theorem kp_keep {T : List NTab} {l : List Addr} (k : Kp T l H H') (hl : ∀ a ∈ l, (∃ xs, H a = some (.lst xs)) ∨ ∃ kvs, H a = some (.dK kvs)) : ∀ b o, H b = some o → (∀ ps, o ≠ .tbl ps) → (∀ xs, o ≠ .lst xs) → (∀ xs, o ≠ .dK xs) → H' b = some o := fun b o h h1 h2 h3 => by
  refine k.k b o (fun hb => ?_) h h1
  rcases hl b hb with ⟨xs, e⟩ | ⟨xs, e⟩
  · rw [e] at h
    cases h
    exact h2 xs rfl
  · rw [e] at h
    cases h
    exact h3 xs rfl
theorem kp_at {T : List NTab} {l as : List Addr} (k : Kp T l H H') (ha : ∀ a ∈ as, (∃ xs, H a = some (.lst xs)) ∨ ∃ kvs, H a = some (.dK kvs)) (d : Dj as l) : ∀ a ∈ as, H' a = H a := fun a h => by
  rcases ha a h with ⟨xs, e⟩ | ⟨xs, e⟩
  · rw [e]
    exact k.lst (d a h) e
  · rw [e]
    exact k.dK (d a h) e
theorem Ow.kp {T : List NTab} {l : List Addr} {v : V} {n : Nat} {as : List Addr} (h : Ow K H v n as) (k : Kp T l H H') (hl : ∀ a ∈ l, (∃ xs, H a = some (.lst xs)) ∨ ∃ kvs, H a = some (.dK kvs)) (d : Dj as l) : Ow K H' v n as := h.stay (kp_keep k hl) (kp_at k h.kind d)
theorem OwA.kp {T : List NTab} {l : List Addr} {v : List V} {n : Nat} {as : List Addr} (h : OwA K H v n as) (k : Kp T l H H') (hl : ∀ a ∈ l, (∃ xs, H a = some (.lst xs)) ∨ ∃ kvs, H a = some (.dK kvs)) (d : Dj as l) : OwA K H' v n as := h.stay (kp_keep k hl) (kp_at k h.kind d)
theorem Ow.ke {v : V} {n : Nat} {as : List Addr} (h : Ow K H v n as) (k : Ke H H') : Ow K H' v n as := h.stay (fun b o e n _ _ => k b o e n) fun a ha => by
  rcases h.kind a ha with ⟨xs, e⟩ | ⟨xs, e⟩
  · rw [e]; exact k _ _ e fun _ z => by cases z
  · rw [e]; exact k _ _ e fun _ z => by cases z
theorem OwA.ke {v : List V} {n : Nat} {as : List Addr} (h : OwA K H v n as) (k : Ke H H') : OwA K H' v n as := h.stay (fun b o e n _ _ => k b o e n) fun a ha => by
  rcases h.kind a ha with ⟨xs, e⟩ | ⟨xs, e⟩
  · rw [e]; exact k _ _ e fun _ z => by cases z
  · rw [e]; exact k _ _ e fun _ z => by cases z
theorem Ow.hide {D : Addr} {ys : List V} {v : V} {n : Nat} {as : List Addr} (h : Ow K H v n as) (e : H D = some (.lst ys)) (hd : D ∉ as) : Ow K (off [D] H) v n as := h.stay (fun b o q _ n _ => off_some (by
  simp
  rintro rfl
  rw [e] at q
  cases q
  exact n ys rfl) q) fun a ha => off_ne (by simp; rintro rfl; exact hd ha)
theorem OwA.hide {D : Addr} {ys : List V} {v : List V} {n : Nat} {as : List Addr} (h : OwA K H v n as) (e : H D = some (.lst ys)) (hd : D ∉ as) : OwA K (off [D] H) v n as := h.stay (fun b o q _ n _ => off_some (by
  simp
  rintro rfl
  rw [e] at q
  cases q
  exact n ys rfl) q) fun a ha => off_ne (by simp; rintro rfl; exact hd ha)
theorem Ow.there {v : V} {n : Nat} {as : List Addr} (h : Ow K H v n as) : ∀ a ∈ as, H a ≠ none := fun a ha e => by
  rcases h.kind a ha with ⟨_, q⟩ | ⟨_, q⟩ <;> rw [q] at e <;> cases e
theorem OwA.there {v : List V} {n : Nat} {as : List Addr} (h : OwA K H v n as) : ∀ a ∈ as, H a ≠ none := fun a ha e => by
  rcases h.kind a ha with ⟨_, q⟩ | ⟨_, q⟩ <;> rw [q] at e <;> cases e
theorem OwA.snoc : ∀ {vs : List V} {v : V} {n : Nat} {as bs : List Addr}, OwA K H vs n as → Ow K H v n bs → Dj as bs → OwA K H (vs ++ [v]) n (as ++ bs)
  | _, v, n, _, bs, .nil, h, _ => by
    have q : OwA K H [v] n (bs ++ []) := .cons h .nil fun _ _ z => by cases z
    rw [List.append_nil] at q
    exact q
  | _, v, n, _, bs, .cons (as := a1) (bs := a2) h1 h2 h3, h, d => by
    have q := h2.snoc h fun a ha => d a (List.mem_append_right _ ha)
    have r : Dj a1 (a2 ++ bs) := fun a ha hb => (List.mem_append.mp hb).elim (h3 a ha) (d a (List.mem_append_left _ ha))
    have s := OwA.cons h1 q r
    rw [List.append_assoc]
    exact s
end
/-- changes of what is new are none -/
theorem Kp.fresh {T : List NTab} {l as : List Addr} {H H1 H2 : Hp} (a : Kp T l H H1) (b : Kp T (as ++ l) H1 H2) (h : ∀ x ∈ as, H x = none) : Kp T l H H2 :=
  ⟨fun c o n e z => b.k c o (fun q => (List.mem_append.mp q).elim (fun q => by rw [h c q] at e; cases e) n) (a.k c o n e z) z, fun t => b.t (a.t t), fun c e => a.n c (b.n c e)⟩
/-- the kind of a tree's root -/
theorem Ow.tg {K : PySem.W.Frag} {H : Hp} {v : V} {n : Nat} {as : List Addr} (h : Ow K H v n as) : ∃ g, TgOf K H v g ∧ ∀ a, v = .ref a → (g = .lst ∧ ∃ xs, H a = some (.lst xs)) ∨ (g = .tup ∧ ∃ xs, SqT K H a xs) ∨ (g = .dct ∧ ∃ kvs, H a = some (.dK kvs)) := by
  cases h with
  | leaf h =>
    cases v with
    | non => exact ⟨_, .non, fun _ z => by cases z⟩
    | bl b => exact ⟨_, .bl b, fun _ z => by cases z⟩
    | int b => exact ⟨_, .int b, fun _ z => by cases z⟩
    | str b => exact ⟨_, .str b, fun _ z => by cases z⟩
    | _ => simp [sclV] at h
  | lst h _ _ _ => exact ⟨_, .lst (SqL.of h), fun a z => by cases z; exact .inl ⟨rfl, _, h⟩⟩
  | tup h _ => exact ⟨_, .tup h, fun a z => by cases z; exact .inr (.inl ⟨rfl, _, h⟩)⟩
  | dct h _ _ _ => exact ⟨_, .dK (.inl h), fun a z => by cases z; exact .inr (.inr ⟨rfl, _, h⟩)⟩
def lvS : PyData → Bool
  | .list _ | .tuple _ | .dict _ => false
  | _ => true
mutual
/-- no list, tuple, dict is too long -/
def smal : PyData → Bool
  | .list xs => decide (xs.length ≤ 1000000) && smalA xs
  | .tuple xs => decide (xs.length ≤ 1000000) && smalA xs
  | .dict xs => decide (xs.length ≤ 1000000) && smalD xs
  | _ => true
def smalA : List PyData → Bool
  | [] => true
  | x :: xs => smal x && smalA xs
def smalD : List (PyData × PyData) → Bool
  | [] => true
  | (a, b) :: xs => smal a && smal b && smalD xs
end
theorem smalA_mem : ∀ {ds : List PyData} {d : PyData}, smalA ds = true → d ∈ ds → smal d = true
  | x :: xs, d, h, m => by
    have h' : smal x = true ∧ smalA xs = true := by simpa [smalA] using h
    rcases List.mem_cons.mp m with rfl | m
    · exact h'.1
    · exact smalA_mem h'.2 m
/-- plain data are plain values -/
theorem Rp.scl {K : PySem.W.Frag} {H : Hp} {v : V} {d : PyData} (h : Rp K H v d) (e : lvS d = true) : sclV v = true := by
  cases h <;> first | rfl | (simp [lvS] at e)
end Sky
set_option Elab.async false
set_option linter.all false
set_option maxRecDepth 100000
set_option maxHeartbeats 4000000
/-! Sky E: lambdas with parameters and captured names, functions handed on and called where they are got. -/
namespace Sky
open PySem PySem.Spec PyProof.Rows L2 LamX NdefX

/-! ### the lambda as an object -/
structure LF where
  qual : Str
  params : Arguments
  body : Expr
  scope : Scope
  cl : List (Str × Addr)
  c : Addr
abbrev LF.nf (F : LF) : NF := ⟨"<lambda>", F.qual, F.params, [], F.scope, F.cl, F.c⟩
abbrev LF.fd (F : LF) (pm ctv : Value) : FuncData := PySem.W.kla_fn "<lambda>" F.qual F.params F.body F.scope F.cl pm (.ref F.c) ctv
def LamO (f : Addr) (F : LF) : HO := .ext fun h => ∃ (od : Option Addr) (sl : Array (Option Value)) (pm ctv : Value), h.get? f = some (⟨.type "function", od, .func (F.fd pm ctv), sl⟩ : Obj)
theorem lamO_ne {f : Addr} {F : LF} (ps : Array Value) : LamO f F ≠ .tbl ps := fun z => by
  unfold LamO at z
  cases z
theorem lamO_at {P : Program} {w : World} {H : Hp} {h : Heap} {f : Addr} {F : LF} (hok : HOk P w H h) (e : H f = some (LamO f F)) : ∃ (od : Option Addr) (sl : Array (Option Value)) (pm ctv : Value), h.get? f = some (⟨.type "function", od, .func (F.fd pm ctv), sl⟩ : Obj) := by
  obtain ⟨z, _, _⟩ := hok f _ e
  exact z
section
variable {X : Cx} {pins : List (Addr × Obj)} {σ : L2.St} {H : Hp} {s : Shared}
theorem inv_lam {F : LF} {o : Obj} {t' : Nat} {pm ctv : Value} (I : Inv X pins σ H s) (ho : o = { cls := .type "function", data := .func (F.fd pm ctv) }) :
    Inv X pins σ (upd H s.heap.objs.size (LamO s.heap.objs.size F)) { s with heap := s.heap.push o, toks := t' } := by
  subst ho
  refine I.laid (a := s.heap.objs.size) (fun b u e => Heap.get?_push_of_some _ e) (Nat.le_refl _) ?_
  have e : (s.heap.push ({ cls := .type "function", data := .func (F.fd pm ctv) } : Obj)).get? s.heap.objs.size = some ({ cls := .type "function", data := .func (F.fd pm ctv) } : Obj) := Heap.get?_push_size _ rfl
  exact ⟨⟨_, _, pm, ctv, e⟩, ⟨_, e⟩, fun h1 h2 ⟨od, sl, p, t, z⟩ st => ⟨od, sl, p, t, st _ z⟩⟩
theorem kp_of_extN {T : List NTab} {H H1 : Hp} (e : ExtN H H1) (n : ∀ b, H1 b = none → H b = none) (t : TabsN T H1) : Kp T [] H H1 := ⟨fun b o _ h z => e b o h z, fun _ => t, n⟩
theorem lam_make3 {T : List NTab} {nm : Nat → Nat → Str} {c P : Addr} {params : Arguments} {body : Expr} {scope : Scope} {pos : Pos} {E : Value → Shared → Prop} {Q : Value → Shared → Prop} (I : Inv X pins σ H s) (TB : TabB X.base X.mg c P) (hcode : X.env.code = .ref c)
    (hm : (P, nm) ∈ T) (hn : nm pos.line pos.col = X.env.qual ++ "<lambda>") (hu : ∀ p ∈ T, p.1 = P → p.2 = nm) (hT : TabsN T H) (hdef : defaultsOf params X.env = ([], [])) (hfree : ∀ y ∈ scope.names, y.2 = .free → ∃ c, X.env.cells.lookup y.1 = some c)
    (h : ∀ (f c' : Addr) (H1 : Hp) (s' : Shared), Inv X pins σ H1 s' → Kp T [] H H1 → H f = none → H1 f = some (LamO f ⟨X.env.qual ++ "<lambda>", params, body, scope, cloFrom X.env.cells scope.names [], c'⟩) → H1 c' = some (CodeO c' (X.env.qual ++ "<lambda>")) → Q (.ref f) s') :
    wpAny (model X.prog X.w) X.A (eval (.Lambda params body scope pos) X.env) Q E s := by
  obtain ⟨ps, hP, ht, ha⟩ := (show TabN H P nm from hT _ hm)
  refine PySem.W.kla_eval hdef ?_
  have bP : s.heap.BuiltinsAt X.mg P := TB.bm.keeps I.bk
  have hP' : s.heap.get? P = some { cls := .none, data := .fields ps } := I.hok P _ hP
  cases hc : codeAmong pos ps.toList with
  | none =>
    refine PySem.W.kla_makeFunction (mg := X.mg) (c := c) (P := P) (ps := ps) (closure_ok hfree) I.ok.glob (I.mod.glob.keeps I.bk) hcode (TB.code.keeps I.bk) hP' ht hc TB.gP bP fun c' ctv h' tk hx hge hlt hrec htb => ?_
    obtain ⟨c2, oc, vs, t, e2, hoc, hd, hv⟩ := hrec
    cases e2
    have nC : H c' = none := I.hok.fresh hge
    have I1 := inv_table (t' := tk) (more := #[rawInt pos.line, rawInt pos.col, .ref c']) (h' := h') I hP (fun b o hb e => hx b o hb e) htb hge ⟨oc, vs, t, hoc, hd, hv⟩
    have hE : ExtN H (upd (upd H P (.tbl (ps ++ #[rawInt pos.line, rawInt pos.col, .ref c']))) c' (CodeO c' (X.env.qual ++ "<lambda>"))) := fun b o e n => by
      rw [upd_ne (ne_of_none e nC), upd_ne (fun z => n ps (Option.some.inj (e.symm.trans (by rw [z]; exact hP))))]
      exact e
    have eL : (ps ++ #[rawInt pos.line, rawInt pos.col, .ref c']).toList = ps.toList ++ [rawInt pos.line, rawInt pos.col, .ref c'] := by simp
    have T1 : TabsN T (upd (upd H P (.tbl (ps ++ #[rawInt pos.line, rawInt pos.col, .ref c']))) c' (CodeO c' (X.env.qual ++ "<lambda>"))) := fun p hp => by
      by_cases hb : p.1 = P
      · rw [hu p hp hb, hb]
        refine ⟨_, by rw [upd_ne (ne_of_none hP nC), upd_same], by rw [eL]; exact PySem.TriplesOk_snoc _ _ _ _ ht, fun p' cv hcv => ?_⟩
        rw [eL] at hcv
        rcases among_app2 _ ht hcv with z | ⟨z, z1, z2⟩
        · obtain ⟨c0, e1, e2⟩ := ha p' cv z
          exact ⟨c0, e1, hE _ _ e2 codeO_ne⟩
        · refine ⟨c', z, ?_⟩
          rw [← z1, ← z2, hn]
          exact upd_same
      · obtain ⟨ps', a1, a2, a3⟩ := hT p hp
        refine ⟨ps', by rw [upd_ne (ne_of_none a1 nC), upd_ne hb]; exact a1, a2, fun p' cv hcv => ?_⟩
        obtain ⟨c0, e1, e2⟩ := a3 p' cv hcv
        exact ⟨c0, e1, hE _ _ e2 codeO_ne⟩
    have nF := I1.hok.fresh (Nat.le_refl _)
    have I2 := inv_lam (F := ⟨X.env.qual ++ "<lambda>", params, body, scope, cloFrom X.env.cells scope.names [], c'⟩) (t' := tk) (pm := (X.mg "__name__").getD .none) (ctv := ctv) I1 rfl
    refine h h'.objs.size c' _ _ I2 (kp_of_extN (fun b o e n => ?_) (fun b e => NdefX.upd_none (NdefX.upd_none (NdefX.upd_none e))) (T1.ext fun b o e => ?_)) (I.hok.fresh (Nat.le_trans hge (Nat.le_of_lt hlt))) upd_same ?_
    · have e1 := hE b o e n
      exact (upd_ne (ne_of_none e1 nF)).trans e1
    · exact (upd_ne (ne_of_none e nF)).trans e
    · exact (upd_ne (Nat.ne_of_lt hlt)).trans upd_same
  | some cv =>
    obtain ⟨c', e, hco⟩ := ha pos cv hc
    subst e
    rw [hn] at hco
    refine PySem.W.kla_makeFunctionHit (mg := X.mg) (c := c) (P := P) (ps := ps) (closure_ok hfree) I.ok.glob (I.mod.glob.keeps I.bk) hcode (TB.code.keeps I.bk) hP' ht hc bP fun ctv h' tk hx hsz => ?_
    have I1 : Inv X pins σ H { s with heap := h', toks := tk } := I.kept hx
    have nF : H h'.objs.size = none := I1.hok.fresh (Nat.le_refl _)
    have I2 := inv_lam (F := ⟨X.env.qual ++ "<lambda>", params, body, scope, cloFrom X.env.cells scope.names [], c'⟩) (t' := tk) (pm := (X.mg "__name__").getD .none) (ctv := ctv) I1 rfl
    refine h h'.objs.size c' _ _ I2 (kp_of_extN (fun b o e n => ?_) (fun b e => NdefX.upd_none e) (hT.ext fun b o e => ?_)) nF upd_same ?_
    · exact (upd_ne (ne_of_none e nF)).trans e
    · exact (upd_ne (ne_of_none e nF)).trans e
    · exact (upd_ne (ne_of_none hco nF)).trans hco
/-- the reading of a lambda: a new function -/
def tLamb (T : List NTab) (mk : Addr → LF) : TE := fun _ H Q => TabsN T H ∧ ∀ (f c' : Addr) (H1 : Hp), Kp T [] H H1 → H f = none → H1 f = some (LamO f (mk c')) → H1 c' = some (CodeO c' (mk c').qual) → Q (.ref f) H1
theorem pe_lam {T : List NTab} {nm : Nat → Nat → Str} {c P : Addr} {params : Arguments} {body : Expr} {scope : Scope} {pos : Pos} (TB : TabB X.base X.mg c P) (hcode : X.env.code = .ref c) (hm : (P, nm) ∈ T) (hu : ∀ p ∈ T, p.1 = P → p.2 = nm)
    (hn : nm pos.line pos.col = X.env.qual ++ "<lambda>") (hfree : ∀ y ∈ scope.names, y.2 = .free → X.env.scope.names.lookup y.1 = some .cell ∨ X.env.scope.names.lookup y.1 = some .free) (hdef : defaultsOf params X.env = ([], []) := by rfl) :
    PE X (.Lambda params body scope pos) (tLamb T fun c' => ⟨X.env.qual ++ "<lambda>", params, body, scope, cloFrom X.env.cells scope.names [], c'⟩) := by
  refine ⟨fun pins s σ H Q I h => ?_⟩
  obtain ⟨hT, h⟩ := h
  have hfr : ∀ y ∈ scope.names, y.2 = .free → ∃ c, X.env.cells.lookup y.1 = some c := fun y hy e => (hfree y hy e).elim (fun z => I.ok.has _ (.inl z)) fun z => I.ok.has _ (.inr z)
  exact lam_make3 I TB hcode hm hn hu hT hdef hfr fun f c' H1 s' I1 k f0 f1 c1 => ⟨.ref f, H1, I1, rfl, h f c' H1 k f0 f1 c1⟩
end

/-! ### what a lambda promises -/
structure LOk (P : Program) (w : World) (K : PySem.W.Frag) (mg : Str → Option Value) (base : Heap) (k : Nat) (f : Addr) (F : LF) (ps fr : List Str) (sp : List (Option V) → Sp) : Prop where
  len : ∀ ws vs H Q E, sp ws vs H Q E → vs.length = ps.length
  run : ∀ (A : Around) (outer : List Env) (s : Shared) (H : Hp) (us : List Value) (vs : List V) (ws : List (Option V)) (Q : VK) (E : XK), Room k A → Env0 P w K mg base A outer s H → H f = some (LamO f F) → H F.c = some (CodeO F.c F.qual) →
    CellsAt F.cl fr ws s.heap H → Vals vs us → sp ws vs H Q E → codeAny (model P w) A (.call (.ref f) ⟨us, []⟩) (CR CX0 outer P w H s Q E) s
section
variable {P : Program} {w : World} {K : PySem.W.Frag} {mg : Str → Option Value} {base : Heap} {N ps fr : List Str} {F : LF} {f : Addr} {k : Nat} {sp : List (Option V) → Sp}
/-- THE RULE: a lambda by its expression -/
theorem lok_of (S : NScope N ps fr F.scope) (hb : ∀ (pm ctv : Value) (us : List Value), us.length = ps.length → bindArgs (F.fd pm ctv) ⟨us, []⟩ = pure (ps.zip us)) (len : ∀ ws vs H Q E, sp ws vs H Q E → vs.length = ps.length)
    (hbody : ∀ (A : Around) (outer : List Env) (s : Shared) (H : Hp) (vs : List V) (ws : List (Option V)) (Q : VK) (E : XK), Room k (A.deeper (envF F.nf f s.heap.objs.size)) → ws.length = fr.length → sp ws vs H Q E →
      ∃ t, PE (ncx CX0 P w K mg base N F.nf f A outer s H E).nox F.body t ∧ t (startF N vs ws) H Q) :
    LOk P w K mg base (k + 1) f F ps fr sp := by
  refine ⟨len, fun A outer s H us vs ws Q E hr e0 hf hc C r hsp => ?_⟩
  have hl := len _ _ _ _ _ hsp
  have lim : s.heap.NoLimit := e0.mod.nolimit.keeps fun b o e => (e0.bs b o e).1
  obtain ⟨od, sl, pm, ctv, ho⟩ := lamO_at e0.hok hf
  refine PySem.W.kla_callFunE hr.depth ho rfl S.co S.gen rfl (codeO_at e0.hok hc) ?_
  rw [hb pm ctv us (by rw [← r.length]; exact hl)]
  refine wpAny_pure (wpAny_newFunctionEnv S.nocell (fun ⟨n, _⟩ hy => S.par n (List.of_mem_zip hy).1) (fun h₁ hns hsb => ⟨lim.fresh _ hsb, ?_⟩) S.kind)
  have kp : ∀ b o, s.heap.get? b = some o → h₁.get? b = some o := fun b o e => hsb.extBut b o (Nat.ne_of_lt (Heap.lt_size e)) (Heap.get?_push_of_some _ e)
  obtain ⟨t, ht, hq⟩ := hbody A outer s H vs ws Q E (hr.deeper _) C.len hsp
  have I : Inv (ncx CX0 P w K mg base N F.nf f A outer s H E) [] (startF N vs ws) H { s with heap := h₁, toks := s.toks + (ps.zip us).length } := inv_startN S hr.hd e0 hl r C hns kp
  refine PySem.W.kla_codeExpr (wpAny_mono (ht.nox.run [] _ (startF N vs ws) H Q I hq) (fun v s' hs => ?_) fun e s' hs => hs)
  obtain ⟨x, H', J, rv, q⟩ := hs
  exact ⟨x, H', J.os, J.bare, J.base, J.hok, rv, q⟩
end

/-! ### functions that are handed on -/
/-- what a handed function leans on: functions, bound methods, code objects -/
def Fx (o : HO) : Prop := (∃ f x, o = .met f x) ∨ ∃ φ, o = .ext φ
/-- (s', H') is behind (s, H), as far as a handed function can tell; fs: the frames that ran at s -/
structure Later (fs : List Addr) (s : Shared) (H : Hp) (s' : Shared) (H' : Hp) : Prop where
  un : ∀ b o, s.heap.get? b = some o → H b = none → b ∉ fs → s'.heap.get? b = some o ∧ H' b = none
  fx : ∀ b o, H b = some o → Fx o → H' b = some o
theorem Later.trans {fs : List Addr} {s s1 s2 : Shared} {H H1 H2 : Hp} (a : Later fs s H s1 H1) (b : Later fs s1 H1 s2 H2) : Later fs s H s2 H2 :=
  ⟨fun c o e n h => b.un c o (a.un c o e n h).1 (a.un c o e n h).2 h, fun c o e f => b.fx c o (a.fx c o e f) f⟩
theorem Later.refl {fs : List Addr} {s : Shared} {H : Hp} : Later fs s H s H := ⟨fun _ _ e n _ => ⟨e, n⟩, fun _ _ e _ => e⟩
/-- v can be called with the promise sp, now and later -/
structure Cb (P : Program) (w : World) (K : PySem.W.Frag) (mg : Str → Option Value) (base : Heap) (k : Nat) (fs : List Addr) (s : Shared) (H : Hp) (v : V) (sp : Sp) : Prop where
  ex : ∃ q, v = .ref q ∧ ∀ (A : Around) (outer : List Env) (s' : Shared) (H' : Hp) (pos : Pos) (e : Expr) (es : List Expr) (env : Env) (Q : Value → Shared → Prop) (E : Value → Shared → Prop),
    Later fs s H s' H' → Room k A → Env0 P w K mg base A outer s' H' →
    (starEach (e :: es) env = (false, eval e env) :: starEach es env) → (backTo pos (starEach es env)).any (·.1) = false →
    wpAny (model P w) A (spliced (backTo pos (starEach (e :: es) env))) (fun us s1 => ∃ (vs : List V) (H1 : Hp) (Q1 : VK), Later fs s H s1 H1 ∧ Env0 P w K mg base A outer s1 H1 ∧ Vals vs us ∧ sp vs H1 Q1 E0 ∧ ∀ u s2, CE outer P w H1 s1 Q1 u s2 → Q u s2) E s' →
    wpAny (model P w) A (callWith pos (.ref q) [] (backTo pos (starEach (e :: es) env)) []) Q E s'
section
variable {P : Program} {w : World} {K : PySem.W.Frag} {mg : Str → Option Value} {base : Heap} {k j : Nat} {fs : List Addr} {s s1 : Shared} {H H1 : Hp} {v : V} {sp sp' : Sp}
theorem Cb.later (c : Cb P w K mg base k fs s H v sp) (l : Later fs s H s1 H1) : Cb P w K mg base k fs s1 H1 v sp := by
  obtain ⟨q, e, h⟩ := c.ex
  refine ⟨q, e, fun A outer s' H' pos e es env Q E l' hr e0 h1 h2 h3 => h A outer s' H' pos e es env Q E (l.trans l') hr e0 h1 h2 (wpAny_mono h3 (fun us s2 ⟨vs, H2, Q1, l2, r⟩ => ⟨vs, H2, Q1, l.trans l2, r⟩) fun _ _ z => z)⟩
theorem Cb.mono (c : Cb P w K mg base j fs s H v sp) (h : j ≤ k) : Cb P w K mg base k fs s H v sp := by
  obtain ⟨q, e, f⟩ := c.ex
  exact ⟨q, e, fun A outer s' H' pos e es env Q E l' hr e0 h1 h2 h3 => f A outer s' H' pos e es env Q E l' (hr.mono h) e0 h1 h2 h3⟩
/-- from what the callee promises, kept at each later place -/
theorem cb_of {q : Addr} {Pk : Heap → Prop} (hk : ∀ h : Heap, Pk h → ∃ k, (k = Keeper.frame ∨ k = Keeper.machine ∨ k = Keeper.boundFrame) ∧ PySem.W.Looks (model P w) h (keeperOf (.ref q)) k)
    (hp : ∀ (A : Around) (outer : List Env) (s' : Shared) (H' : Hp), Later fs s H s' H' → Env0 P w K mg base A outer s' H' → Pk s'.heap)
    (hc : ∀ (A : Around) (outer : List Env) (s' : Shared) (H' : Hp) (us : List Value) (vs : List V) (Q : VK), Later fs s H s' H' → Room k A → Env0 P w K mg base A outer s' H' → Vals vs us → sp vs H' Q E0 → codeAny (model P w) A (.call (.ref q) ⟨us, []⟩) (CR CX0 outer P w H' s' Q E0) s') :
    Cb P w K mg base k fs s H (.ref q) sp := by
  refine ⟨q, rfl, fun A outer s' H' pos e es env Q E l hr e0 he hpl h => ?_⟩
  rw [he] at h ⊢
  refine PySem.W.callWith_of (P := Pk) (by show ((false || (backTo pos (starEach es env)).any (·.1)) || false) = false; rw [hpl]; rfl) hk (PySem.Calls.evalArgs_plain (wpAny_mono h (fun us s1 ⟨vs, H1, Q1, l1, e1, r, q1, k1⟩ => ⟨hp A outer s1 H1 l1 e1, ?_⟩) fun _ _ z => z))
  show wpAny _ _ (call (.ref q) us) _ _ _
  refine wpAny_call (codeAny_mono (hc A outer s1 H1 us vs Q1 l1 hr e1 r q1) fun r s2 hq => ?_)
  cases r with
  | error e => exact (show False from hq).elim
  | ok fl =>
    cases fl with
    | ret u => exact k1 u s2 hq
    | next => exact False.elim hq
    | brk => exact False.elim hq
    | cont => exact False.elim hq
/-- a def of the module -/
theorem cb_def {x : Str} {f : Addr} (D : DefOk P w K mg base k x sp) (hm : mg x = some (.ref f)) : Cb P w K mg base k fs s H (.ref f) sp := by
  obtain ⟨f', fd, ps, F, hm', kp, b⟩ := D.ex
  rw [hm'] at hm
  cases hm
  refine cb_of (Pk := K.In) (PySem.W.keeps_K kp) (fun A outer s' H' _ e0 => e0.mod.kin.keeps fun b o e => (e0.bs b o e).1) fun A outer s' H' us vs Q l hr e0 r q => ?_
  have r2 : Vals (vs ++ []) (us ++ []) := r.append .nil
  rw [List.append_nil, List.append_nil] at r2
  have hl : us.length = ps.length := by rw [← r2.length]; exact F.len _ _ _ _ q
  have bb := b s' us (e0.mod.kin.keeps fun b o e => (e0.bs b o e).1) (by rw [List.append_nil]; exact hl)
  rw [List.append_nil] at bb
  exact F.run A outer s' H' ⟨us, []⟩ us vs Q E0 hr e0 bb r2 q
/-- a lambda without captured names, or with -/
theorem cb_lam {f : Addr} {F : LF} {ps fr : List Str} {ws : List (Option V)} {spl : List (Option V) → Sp} (L : LOk P w K mg base k f F ps fr spl) (hf : H f = some (LamO f F)) (hc : H F.c = some (CodeO F.c F.qual)) (C : CellsAt F.cl fr ws s.heap H)
    (hfs : ∀ y c, F.cl.lookup y = some c → c ∉ fs) : Cb P w K mg base k fs s H (.ref f) (spl ws) := by
  refine cb_of (Pk := fun h => ∃ od sl pm ctv, h.get? f = some (⟨.type "function", od, .func (F.fd pm ctv), sl⟩ : Obj)) (fun h ⟨od, sl, pm, ctv, e⟩ => PySem.W.keeps_F h ⟨_, od, _, sl, e⟩) (fun A outer s' H' l e0 => ?_) fun A outer s' H' us vs Q l hr e0 r q => ?_
  · exact lamO_at e0.hok (l.fx f _ hf (.inr ⟨_, rfl⟩))
  · refine L.run A outer s' H' us vs ws Q E0 hr e0 (l.fx f _ hf (.inr ⟨_, rfl⟩)) (l.fx F.c _ hc (.inr ⟨_, rfl⟩)) ?_ r q
    have kp : ∀ y c, F.cl.lookup y = some c → ∀ v, s.heap.IsCell c v → s'.heap.IsCell c v ∧ H' c = none := fun y c e v ⟨o, ho, hd⟩ => by
      have q := l.un c o ho (C.all y c e).1 (hfs y c e)
      exact ⟨⟨o, q.1, hd⟩, q.2⟩
    refine ⟨C.len, fun y c e => ?_, C.inj, fun i y e => ?_⟩
    · obtain ⟨n, v, z⟩ := C.all y c e
      obtain ⟨z1, z2⟩ := kp y c e v z
      exact ⟨z2, v, z1⟩
    · obtain ⟨c, hc, hv⟩ := C.has i y e
      refine ⟨c, hc, fun v ev => ?_⟩
      obtain ⟨u, r, z⟩ := hv v ev
      exact ⟨u, r, (kp y c hc _ z).1⟩
/-- a bound method -/
theorem cb_met {q g a : Addr} {fd : FuncData} {ps : List Str} {spm : Sp} (F : FnOk P w K mg base CX0 k g fd ps spm) (hf : PySem.W.fnIn K g = true) (hb : Binds K fd ps []) (hq : H q = some (.met g a)) :
    Cb P w K mg base k fs s H (.ref q) (fun vs H Q E => spm (.ref a :: vs) H Q E) := by
  refine cb_of (Pk := PySem.W.MethP K q g (.ref a)) (PySem.W.keeps_M hf) (fun A outer s' H' l e0 => ?_) fun A outer s' H' us vs Q l hr e0 r qq => ?_
  · exact ⟨e0.hok q _ (l.fx q _ hq (.inl ⟨_, _, rfl⟩)), e0.mod.kin.keeps fun b o e => (e0.bs b o e).1⟩
  · refine PySem.W.method_call (e0.hok q _ (l.fx q _ hq (.inl ⟨_, _, rfl⟩))) ?_
    have r2 : Vals (.ref a :: vs) (.ref a :: us) := .cons rfl r
    have hl : (Value.ref a :: us).length = ps.length := by rw [← r2.length]; exact F.len _ _ _ _ qq
    have bb := hb s' (.ref a :: us) (e0.mod.kin.keeps fun b o e => (e0.bs b o e).1) (by rw [List.append_nil]; exact hl)
    rw [List.append_nil] at bb
    exact F.run A outer s' H' ⟨.ref a :: us, []⟩ (.ref a :: us) (.ref a :: vs) Q E0 hr e0 bb r2 qq
end
end Sky
set_option Elab.async false
set_option linter.all false
set_option maxRecDepth 100000
set_option maxHeartbeats 4000000
/-! Sky F: enumerate of a list or a tuple. -/
namespace Sky
open PySem PySem.Spec PyProof.Rows L2 LamX NdefX AutoSeq1

theorem meets_enumerate_newT (l : Addr) (items : Array Value) (n : Nat) (dct : Option Addr) (sl : Array (Option Value)) :
    Meets (Builtin.«enumerate.__new__» ⟨[.type "enumerate", .ref l], []⟩) (fun _ R s => s.heap.get? l = some { cls := .type "tuple", dict := dct, data := .seq items n, slots := sl } ∧
      R (.ok (.ret (.ref (s.heap.push { cls := .type "tuple_iterator", data := .fields #[.ref l, .int 0 0] }).objs.size)))
        { s with heap := (s.heap.push { cls := .type "tuple_iterator", data := .fields #[.ref l, .int 0 0] }).push { cls := .type "enumerate", data := .fields #[.none, .bool false, .ref s.heap.objs.size, rawInt 0, .none, .none] } }) :=
  .of_wp fun prog w A R s h => by
    obtain ⟨hp, g, d, tk, os⟩ := s; obtain ⟨hl, h⟩ := h
    have hsub := sub_enumerate
    have hL : Heap.IsTuple (Shared.heap ⟨hp, g, d, tk, os⟩) l items := ⟨_, hl, rfl, n, rfl⟩
    wp_walk using wpAny_loadPart' hl
    refine wpAny_stack_any fun st => wpAny_pure ?_
    split
    · rename_i c _ _ _ _ _
      cases (c == Value.type "enumerate")
      · wp_walk using wpAny_loadPart' hl, wpAny_pyIter_tuple hL
        exact ⟨_, rfl, h⟩
      · wp_walk using wpAny_loadPart' hl, wpAny_pyIter_tuple hL
        exact ⟨_, rfl, h⟩
    · wp_walk using wpAny_loadPart' hl, wpAny_pyIter_tuple hL
      exact ⟨_, rfl, h⟩

theorem call_enumerate_tuple {prog : Program} {w : World} {A : Around} {E : Value → Shared → Prop} {s : Shared} {l : Addr} {items : Array Value} {Q : Value → Shared → Prop} (hL : s.heap.IsTuple l items)
    (h : ∀ h', IsEnum h' (s.heap.objs.size + 1) s.heap.objs.size 0 .none → h'.IsTupleIter s.heap.objs.size l 0 → h'.objs.size = s.heap.objs.size + 2 →
      (∀ b o, s.heap.get? b = some o → h'.get? b = some o) → Q (.ref (s.heap.objs.size + 1)) { s with heap := h' }) :
    wpAny (model prog w) A (call (.type "enumerate") [.ref l]) Q E s := by
  obtain ⟨⟨c, dct, dt, sl⟩, hl, hc, n, hd⟩ := hL
  replace hc : c = .type "tuple" := hc
  replace hd : dt = .seq items n := hd
  subst hc hd
  refine callType_new F.called_enumerate (by decide) (F.typeCall_enumerate_1 _) (F.newCall_enumerate_1 _) (fun obj => F.args_object_init_2 obj _) F.entry_enumerate_new
    (meets_enumerate_newT l items n dct sl) ⟨hl, ?_⟩
  have hz : (s.heap.push { cls := .type "tuple_iterator", data := .fields #[.ref l, .int 0 0] }).objs.size = s.heap.objs.size + 1 := Heap.size_push ..
  show _ ∧ _
  rw [hz]
  have he : IsEnum ((s.heap.push { cls := .type "tuple_iterator", data := .fields #[.ref l, .int 0 0] }).push
      { cls := .type "enumerate", data := .fields #[.none, .bool false, .ref s.heap.objs.size, rawInt 0, .none, .none] }) (s.heap.objs.size + 1) s.heap.objs.size 0 .none := by
    have := Heap.get?_push_size (s.heap.push { cls := .type "tuple_iterator", data := .fields #[.ref l, .int 0 0] })
      (o := { cls := .type "enumerate", data := .fields #[.none, .bool false, .ref s.heap.objs.size, rawInt 0, .none, .none] }) rfl
    rw [hz] at this; exact this
  refine ⟨⟨_, he, rfl⟩, h _ he ⟨_, Heap.get?_push_of_some _ (Heap.get?_push_size _ rfl), rfl, rfl⟩ (by rw [Heap.size_push, hz]) fun b o x => Heap.get?_push_of_some _ (Heap.get?_push_of_some _ x)⟩

theorem pyNext_enumT_end {prog : Program} {w : World} {A : Around} {E : Value → Shared → Prop} {s : Shared} {e it l : Addr} {i : Nat} {c : Int} {items : Array Value} {old : Value} {Q : Option Value → Shared → Prop} (hh : A.handled = none)
    (he : IsEnum s.heap e it c old) (hit : s.heap.IsTupleIter it l i) (hl : s.heap.IsTuple l items) (hx : items[i]? = none)
    (hQ : ∀ h', Heap.ExtBut it s.heap h' → Q none { s with heap := h' }) : wpAny (model prog w) A (pyNext (.ref e)) Q E s := by
  have hT : s.TypeIs (.ref e) "enumerate" := ⟨_, he, rfl⟩
  unfold pyNext
  refine wpAny_bind (wpAny_attempt (wpAny_callSpecial?_slot (name := Str.ofString "__next__") hT F.slot_enumerate_next
    (wpAny_call_entry F.slot_enumerate_next hT F.entry_enumerate_next ?_ (F.args_enumerate_next_1 _))))
  show wpAny _ _ (field (.ref e) 2 >>= _) _ _ _
  refine wpAny_bind (wpAny_field he rfl (x := .ref it) rfl ?_)
  refine wpAny_bind (wpAny_nextOf_tuple_end hh hit hl hx fun h' x he' hx' => ?_)
  obtain ⟨o, ho, hc⟩ := hx'
  refine wpAny_bind (wpAny_isInstance (T := "StopIteration") (b := true) ⟨o, ho, hc⟩ isSubtype_stop ?_)
  exact wpAny_pure (hQ _ he')
def IteT (K : PySem.W.Frag) (a : Addr) : It :=
  ⟨fun i H => ∃ (xs : List V) (x : V), SqT K H a xs ∧ xs[i]? = some x, fun i H v H' => ∃ T x, v = .ref T ∧ H T = none ∧ H' = upd H T (.tup [.int (i : Nat), x]) ∧ ∀ xs, SqT K H a xs → xs[i]? = some x, fun i H => ∃ xs : List V, SqT K H a xs ∧ xs.length ≤ i⟩
theorem turn_enumT {P : Program} {w : World} {K : PySem.W.Frag} {elts : List Expr} {kk : Nat} {tpos : Pos} (a e it : Addr) :
    Turn P w K (.Tuple elts kk tpos) (IteT K a) [e, it] e (fun i h => (∃ old, IsEnum h e it ((i : Nat) : Int) old) ∧ h.IsTupleIter it a i ∧ e ≠ it) where
  mem := by simp
  obj := fun i h st b hb => by
    obtain ⟨⟨old, he⟩, ⟨o, ho, hc, hd⟩, _⟩ := st
    have e' : b = e ∨ b = it := by simpa using hb
    rcases e' with z | z
    · rw [z]; exact ⟨_, he, fun v q => nomatch q⟩
    · rw [z]; exact ⟨o, ho, fun v q => by rw [hd] at q; cases q⟩
  keep := fun i h h' st k => let ⟨⟨old, he⟩, hi, hne⟩ := st; ⟨⟨old, k e (by simp) _ he⟩, hi.at fun o q => k it (by simp) o q, hne⟩
  item := by
    intro X hP hw hK hc i pins s σ H E I hf st hg
    subst hP hw hK
    obtain ⟨⟨old, he⟩, hit, hne⟩ := st
    obtain ⟨xs, x, hq, hx⟩ := hg
    obtain ⟨its, rv, p, hz⟩ := I.tuple hq
    obtain ⟨u, hu, ru⟩ := rv.get hx
    have hel : e < s.heap.objs.size := Heap.lt_size he
    have hil : it < s.heap.objs.size := by obtain ⟨_, q, _⟩ := hit; exact Heap.lt_size q
    have hei : e ≠ a := fun z => by
      obtain ⟨o, ho, hc, _⟩ := p
      rw [z] at he
      rw [show s.heap.get? a = some _ from he] at ho
      cases ho
      have hc' : Value.type "enumerate" = .type "tuple" := hc
      injection hc' with q
      exact absurd q (by decide)
    have hit2 : a ≠ it := fun z => by
      obtain ⟨o, ho, hc, _⟩ := p
      obtain ⟨o2, h2, c2, _⟩ := hit
      rw [z, h2] at ho
      cases ho
      rw [c2] at hc
      injection hc with q
      exact absurd q (by decide)
    have hh : X.A.in1.handled = none := I.ok.hd hc
    refine wpAny_pyNext_enum_itemD (Draws.tuple hh it a hit2 its.toArray) he ⟨hit, show s.heap.IsTuple a its.toArray from p⟩ (by have := (List.getElem?_eq_some_iff.mp hu).1; simpa using this) hne (by simp [hne, hei]) fun x' h' tk hP ho hst' hT hsz hk => ?_
    have ex : x' = u := by
      have h1 : its.toArray[i]? = some x' := hP
      rw [List.getElem?_toArray, hu] at h1
      exact (Option.some.inj h1).symm
    subst ex
    refine ⟨_, rfl, wpAny_letOwnedTupleGo_enum (s := { s with heap := h', toks := tk + 1 }) ho fun h'' he' sb => ?_⟩
    have hT2 : h''.get? s.heap.objs.size = some { cls := .type "tuple", data := .seq #[.int i tk, x'] } := (sb.2 _ (Nat.ne_of_gt hel)).trans hT
    have new : ObjOk X.prog X.w (upd H s.heap.objs.size (.tup [.int (i : Nat), x])) h'' s.heap.objs.size (.tup [.int (i : Nat), x]) :=
      ⟨by show 2 ≤ sizeLine; decide, [.int i tk, x'], .cons ⟨_, rfl⟩ (.cons ru .nil), ⟨_, hT2, rfl, _, rfl⟩⟩
    have I1 : Inv X pins σ (upd H s.heap.objs.size (.tup [.int (i : Nat), x])) { s with heap := h'', toks := tk + 1 } :=
      I.turnedNew (ch := [e, it]) (fun b ob hb q => (sb.2 b (fun z => hb (by simp [z]))).trans (hk b ob (fun z => hb (by simp [z])) (fun z => hb (by simp [z])) q)) hf (Nat.le_refl _) new
    refine ⟨.ref s.heap.objs.size, _, I1, rfl, ⟨_, x, rfl, I.hok.fresh (Nat.le_refl _), rfl, fun ys hy => by rw [I.tuple_inj hy hq]; exact hx⟩, ⟨⟨x', ?_⟩, hst'.1.at fun o q => (sb.2 it (Ne.symm hne)).trans q, hne⟩, fun b hb => ?_⟩
    · have e1 : ((i + 1 : Nat) : Int) = (i : Int) + 1 := by omega
      rw [e1]; exact he'
    · have hb' : b < s.heap.objs.size := by
        have e' : b = e ∨ b = it := by simpa using hb
        rcases e' with z | z
        · rw [z]; exact hel
        · rw [z]; exact hil
      rw [upd_ne (Nat.ne_of_lt hb')]
      exact (hf b hb).1
  done := by
    intro X hP hw hK hc i pins s σ H E I hf st hg
    subst hP hw hK
    obtain ⟨⟨old, he⟩, hit, hne⟩ := st
    obtain ⟨xs, hq, hx⟩ := hg
    obtain ⟨its, rv, p, hz⟩ := I.tuple hq
    obtain ⟨f0, f1, f2, f3, f4, f5⟩ := hf it (by simp)
    have hl := rv.length
    have hit2 : a ≠ it := fun z => by
      obtain ⟨o, ho, hc, _⟩ := p
      obtain ⟨o2, h2, c2, _⟩ := hit
      rw [z, h2] at ho
      cases ho
      rw [c2] at hc
      injection hc with q
      exact absurd q (by decide)
    exact pyNext_enumT_end (I.ok.hd hc) he hit (show s.heap.IsTuple a its.toArray from p) (by simp; omega) fun h' eb => ⟨rfl, I.turned (t' := s.toks) (fun b o hb q => eb b o hb q) f0 f1 f3 f4 f5⟩
  self := fun A i s Q E st h => let ⟨⟨_, he⟩, _⟩ := st; wpAny_pyIter_enum he h
theorem walk_enumT {K : PySem.W.Frag} {a : Addr} {xs : List V} : Walk (IteT K a) xs.length (fun H => SqT K H a xs) (YPair (fun i => some (.int (i : Nat))) (fun i => xs[i]?)) := by
  refine ⟨fun i _ hi q => ⟨xs, xs[i], q, by simp [hi]⟩, fun _ q => ⟨xs, q, Nat.le_refl _⟩, fun i H v H' _ q y => ?_⟩
  obtain ⟨T, x, h1, h2, h3, h4⟩ := y
  exact ⟨T, .int (i : Nat), x, h1, h2, h3, rfl, h4 xs q⟩
/-- enumerate of a list or a tuple -/
def iEnumS (K : PySem.W.Frag) (ta : TA) : TI := fun σ H R => ta σ H fun vs H1 => ∃ a xs t, vs = [.ref a] ∧ SqB t K H1 a xs ∧
  ∀ (J : It) (G : Hp → Prop), xs.length ≤ sizeLine → Walk J xs.length G (YPair (fun i => some (.int (i : Nat))) (fun i => xs[i]?)) → (∀ H', SqB t K H' a xs → G H') → R J H1
theorem pi_enumS {X : Cx} {e : Expr} {ta : TA} {p pos tpos : Pos} {elts : List Expr} {kk : Nat} (hm : X.mg "enumerate" = none) (ha : PA X [e] ta) (hg : Gl X "enumerate" := by rfl) (hs : starEach [e] X.env = [(false, eval e X.env)] := by rfl) :
    PI X (.Tuple elts kk tpos) (.Call (.Name "enumerate" p) [e] [] pos) (iEnumS X.K ta) := by
  refine ⟨fun pins s σ H R I h => ?_⟩
  refine Call_ (ld_blt I hg hm boot_enumerate (PyProof.Rows.callWith_type1 (thn (ha.run pos pins s σ H _ I h) fun us s1 ⟨vs, H1, I1, r1, q1⟩ => ?_) hs rfl))
  obtain ⟨a, xs, t, ex, hq, q⟩ := q1
  subst ex
  have fpk : ∀ b ∈ [s1.heap.objs.size + 1, s1.heap.objs.size], FpOk X pins H1 b := fun b hb => by
    have e' : b = s1.heap.objs.size + 1 ∨ b = s1.heap.objs.size := by simpa using hb
    have hle : s1.heap.objs.size ≤ b := by
      rcases e' with z | z
      · rw [z]; exact Nat.le_add_right _ _
      · rw [z]; exact Nat.le_refl _
    exact I1.fpOk hle (I1.hok.fresh hle)
  cases r1 with
  | cons r rr =>
    cases rr
    cases r
    cases t with
    | true =>
      have hq : SqL X.K H1 a xs := hq
      have q := q _ _ ((inv_szd I1).sl _ _ hq) walk_enum fun H' e => e
      obtain ⟨its, rv, p', hz⟩ := I1.list hq
      refine call_enumerate_list p'.isList fun h' he hit hsz hk => wpAny_pyIter_enum he ?_
      have I2 : Inv X pins σ H1 { s1 with heap := h' } := I1.kept (t' := s1.toks) hk
      exact ⟨s1.heap.objs.size + 1, [s1.heap.objs.size + 1, s1.heap.objs.size], _, _, H1, rfl, I2, turn_enum a (s1.heap.objs.size + 1) s1.heap.objs.size, ⟨⟨.none, he⟩, hit, Nat.succ_ne_self _⟩, fpk, q⟩
    | false =>
      have hq : SqT X.K H1 a xs := hq
      have q := q _ _ ((inv_szd I1).st _ _ hq) walk_enumT fun H' e => e
      obtain ⟨its, rv, p', hz⟩ := I1.tuple hq
      refine call_enumerate_tuple (show s1.heap.IsTuple a its.toArray from p') fun h' he hit hsz hk => wpAny_pyIter_enum he ?_
      have I2 : Inv X pins σ H1 { s1 with heap := h' } := I1.kept (t' := s1.toks) hk
      exact ⟨s1.heap.objs.size + 1, [s1.heap.objs.size + 1, s1.heap.objs.size], _, _, H1, rfl, I2, turn_enumT a (s1.heap.objs.size + 1) s1.heap.objs.size, ⟨⟨.none, he⟩, hit, Nat.succ_ne_self _⟩, fpk, q⟩
end Sky
set_option Elab.async false
set_option linter.all false
set_option maxRecDepth 100000
set_option maxHeartbeats 4000000
/-! Sky G: calls of a parameter that holds a function; defs whose promise is told of the very state. -/
namespace Sky
open PySem PySem.Spec PyProof.Rows L2 LamX NdefX
/-- what handed functions lean on stays -/
def Fxs (H H' : Hp) : Prop := ∀ b o, H b = some o → Fx o → H' b = some o
section
variable {T : List NTab} {l : List Addr} {H H1 H' : Hp}
theorem Fxs.refl : Fxs H H := fun _ _ e _ => e
theorem Fxs.trans (a : Fxs H H1) (b : Fxs H1 H') : Fxs H H' := fun c o e f => b c o (a c o e f) f
theorem fx_tbl {o : HO} (f : Fx o) : ∀ ps, o ≠ .tbl ps := fun ps z => by
  rcases f with ⟨_, _, f⟩ | ⟨_, f⟩ <;> rw [f] at z <;> cases z
theorem Kp.fxs (k : Kp T l H H') (h : ∀ a ∈ l, ∀ o, H a = some o → ¬ Fx o) : Fxs H H' := fun b o e f => k.k b o (fun z => h b z o e f) e (fx_tbl f)
theorem Kp.fxs0 (k : Kp T [] H H') : Fxs H H' := k.fxs fun _ z => by cases z
theorem Ke.fxs (k : Ke H H') : Fxs H H' := fun b o e f => k b o e (fx_tbl f)
end
section
variable {X : Cx} {pins : List (Addr × Obj)} {σ : L2.St} {H : Hp} {s : Shared}
theorem later_of (I : Inv X pins σ H s) (hex : X.ex = []) (f : Fxs X.H_0 H) : Later X.fs X.s_0 X.H_0 s H :=
  ⟨fun b o e n h => ⟨I.base.keep b o e n h (by rw [hex]; simp), I.base.free b o e n (by rw [hex]; simp)⟩, f⟩
/-- the reading of a call of what the i-th name holds -/
def tCb (H0 : Hp) (i : Nat) (v : V) (sp : Sp) (t : TA) : TE := fun σ H Q => σ[i]? = some (some v) ∧ Fxs H0 H ∧ t σ H fun vs H1 => Fxs H0 H1 ∧ sp vs H1 Q E0
theorem pe_cb {e : Expr} {es : List Expr} {t : TA} {p pos : Pos} {i k j : Nat} {x : Str} {v : V} {sp : Sp} (C : Cb X.prog X.w X.K X.mg X.base k X.fs X.s_0 X.H_0 v sp) (hr : Room j X.A) (ha : PA X (e :: es) t) (hk : k ≤ j := by decide) (hex : X.ex = [] := by rfl)
    (hN : X.N[i]? = some x := by rfl) (hv : Vis X.env.scope x := by first | exact Or.inl rfl | exact Or.inr (Or.inl rfl) | exact Or.inr (Or.inr rfl)) (hd : (x == ("__debug__" : Str)) = false := by decide) (hcd : (x == ("__classdict__" : Str)) = false := by decide)
    (he : starEach (e :: es) X.env = (false, eval e X.env) :: starEach es X.env := by rfl) (hpl : (backTo pos (starEach es X.env)).any (·.1) = false := by rfl) :
    PE X (.Call (.Name x p) (e :: es) [] pos) (tCb X.H_0 i v sp t) := by
  refine ⟨fun pins s σ H Q I h => ?_⟩
  obtain ⟨hs, hx, h⟩ := h
  refine wpAny_Call_Name_kw (thn ((pe_var (pos := p) (i := i) hN hv hd hcd).run pins s σ H (fun v' H1 => v' = v ∧ H1 = H) I ⟨v, hs, rfl, rfl⟩) fun u s1 ⟨v', H1, I1, r1, q1⟩ => ?_)
  obtain ⟨ev, eH⟩ := q1
  subst ev
  rw [eH] at I1
  obtain ⟨q, rfl, f⟩ := C.ex
  obtain rfl : u = Value.ref q := r1
  refine f X.A X.stack s1 H pos e es X.env _ _ (later_of I1 hex hx) (hr.mono hk) I1.env0 he hpl (thn (ha.run pos pins s1 σ H _ I1 h) fun us s2 ⟨vs, H2, I2, r2, hx2, q2⟩ => ?_)
  exact ⟨vs, H2, Q, later_of I2 hex hx2, I2.env0, r2, q2, fun u s3 c => I2.after c⟩
/-! ### a def whose promise is told of the state at the call -/
abbrev SpS := List Addr → Shared → Sp
structure DefOkS (P : Program) (w : World) (K : PySem.W.Frag) (mg : Str → Option Value) (base : Heap) (k : Nat) (x : Str) (sp : SpS) : Prop where
  ex : ∃ (f : Addr) (fd : FuncData) (ps : List Str), (∀ fs s vs H Q E, sp fs s vs H Q E → vs.length = ps.length) ∧
    (∀ (A : Around) (outer : List Env) (s : Shared) (H : Hp) (args : Args) (us : List Value) (vs : List V) (Q : VK) (E : XK), Room k A → Env0 P w K mg base A outer s H → BindsTo s fd args (ps.zip us) → Vals vs us → sp (frs outer) s vs H Q E →
      codeAny (model P w) A (.call (.ref f) args) (CR CX0 outer P w H s Q E) s) ∧ mg x = some (.ref f) ∧ PySem.W.keepIn K (.ref f) = true ∧ Binds K fd ps []
theorem TopFn.okS {P : Program} {w : World} {K : PySem.W.Frag} {mg : Str → Option Value} {base : Heap} {x : Str} {st : Stmt} {N ps : List Str} {k : Nat} {sp : SpS} (F : TopFn K mg x st) (S : FnScope N ps (defScope st))
    (hb : ∀ (kV doc pm : Value) (an : Option Addr) (cdv ct : Value) (us : List Value), us.length = ps.length → bindArgs (PySem.W.fnOf x x (defArgs st) (defBody st) (defScope st) .none kV doc pm an cdv ct) ⟨us, []⟩ = pure (ps.zip us))
    (len : ∀ fs s vs H Q E, sp fs s vs H Q E → vs.length = ps.length)
    (hbody : ∀ (f : Addr) (cdv : Value) (A : Around) (outer : List Env) (s : Shared) (H : Hp) (vs : List V) (Q : VK) (E : XK), Room k (A.deeper (envOfC x (defScope st) s.heap.objs.size f cdv)) → sp (frs outer) s vs H Q E →
      ∃ t, PSs (cxOf CX0 P w K mg base N x (defScope st) f cdv A outer s H E).nox (defBody st) t ∧ t { nx := fun _ H' => Q .non H', rt := Q } (start N vs) H) : DefOkS P w K mg base (k + 1) x sp := by
  obtain ⟨f, fd, F, hm⟩ := F.ex
  obtain ⟨oc, od, kV, doc, pm, an, cdv, ct, osl, rfl, lk, hcd⟩ := F.ex
  refine ⟨f, _, ps, len, fun A outer s H args us vs Q E hr e0 hb r q => ?_, hm, F.kp, .all (hb kV doc pm an cdv ct)⟩
  refine run_ofS lk hcd S hr e0 hb r (len _ _ _ _ _ _ q) fun hr' => ?_
  obtain ⟨t, h, q⟩ := hbody f cdv A outer s H vs Q E hr' q
  exact ⟨t, h.nox, q⟩
/-- the reading of its call -/
def tDS (X : Cx) (sp : SpS) (t : TA) : TE := fun σ H Q => t σ H fun vs H1 => ∀ pins s1, Inv X pins σ H1 s1 → sp (frs X.stack) s1 vs H1 Q E0
theorem pe_dS {e : Expr} {es : List Expr} {t : TA} {p pos : Pos} {k j : Nat} {x : Str} {sp : SpS} (D : DefOkS X.prog X.w X.K X.mg X.base k x sp) (hr : Room j X.A) (ha : PA X (e :: es) t) (hk : k ≤ j := by decide) (hg : Gl X x := by rfl)
    (hdb : (x == ("__debug__" : Str)) = false := by decide) (he : starEach (e :: es) X.env = (false, eval e X.env) :: starEach es X.env := by rfl) (hpl : (backTo pos (starEach es X.env)).any (·.1) = false := by rfl) :
    PE X (.Call (.Name x p) (e :: es) [] pos) (tDS X sp t) := by
  obtain ⟨f, fd, ps, len, run, hm, kp, b⟩ := D.ex
  refine ⟨fun pins s σ H Q I h => ?_⟩
  refine wpAny_Call_Name_kw (ld_glob I hg hm ?_ hdb)
  refine PySem.W.callWith_K (h₀ := X.base) I.ok.mod.kin kp (thn (ha.run pos pins s σ H _ I h) fun us s1 ⟨vs, H1, I1, r, q⟩ => ⟨I1.kIn, ?_⟩) he hpl
  have q := q pins s1 I1
  have hl : us.length = ps.length := by rw [← r.length]; exact len _ _ _ _ _ _ q
  have bb := b s1 us I1.kIn (by rw [List.append_nil]; exact hl)
  rw [List.append_nil] at bb
  refine wpAny_call (codeAny_mono (run X.A X.stack s1 H1 ⟨us, []⟩ us vs Q E0 (hr.mono hk) I1.env0 bb r q) fun r s' hq => ?_)
  cases r with
  | error e => exact (show False from hq).elim
  | ok fl =>
    cases fl with
    | ret u => exact I1.after hq
    | next => exact False.elim hq
    | brk => exact False.elim hq
    | cont => exact False.elim hq
/-! ### the cells of a lambda -/
theorem clo_at {cells : List (Str × Addr)} {names : List (Str × NameKind)} {y : Str} {c : Addr} (e : (cloFrom cells names []).lookup y = some c) : (y, NameKind.free) ∈ names ∧ c = (cells.lookup y).getD 0 := by
  rcases cloFrom_mem (PySem.mem_of_lookup e) with h | h
  · cases h
  · exact h
theorem clo_has {cells : List (Str × Addr)} {names : List (Str × NameKind)} {y : Str} (h : (y, NameKind.free) ∈ names) : (cloFrom cells names []).lookup y = some ((cells.lookup y).getD 0) := by
  obtain ⟨c, e⟩ := mem_lookup (cloFrom_has (cells := cells) (acc := []) h)
  rw [e, (clo_at e).2]
theorem cellsAt_of (I : Inv X pins σ H s) {names : List (Str × NameKind)} {fr : List Str} {ws : List (Option V)} (hfree : ∀ y ∈ names, y.2 = .free → X.env.scope.names.lookup y.1 = some .cell) (hfr : ∀ y ∈ fr, (y, NameKind.free) ∈ names) (hlen : ws.length = fr.length)
    (hv : ∀ (i : Nat) (y : Str) (v : V), fr[i]? = some y → ws[i]? = some (some v) → ∃ j : Nat, X.N[j]? = some y ∧ σ[j]? = some (some v)) : CellsAt (cloFrom X.env.cells names []) fr ws s.heap H := by
  have hc : ∀ y, (y, NameKind.free) ∈ names → ∃ c, X.env.cells.lookup y = some c ∧ (cloFrom X.env.cells names []).lookup y = some c := fun y hy => by
    obtain ⟨c, e⟩ := I.ok.has y (.inl (hfree (y, .free) hy rfl))
    refine ⟨c, e, ?_⟩
    rw [clo_has hy, e]
    rfl
  have ha : ∀ y c, (cloFrom X.env.cells names []).lookup y = some c → X.env.cells.lookup y = some c := fun y c e => by
    obtain ⟨c', h1, h2⟩ := hc y (clo_at e).1
    rw [h2] at e
    cases e
    exact h1
  refine ⟨hlen, fun y c e => ⟨I.freeC y c (ha y c e), I.cell y c (ha y c e)⟩, fun x y c h1 h2 => I.ok.inj x y c (ha x c h1) (ha y c h2), fun i y e => ?_⟩
  have hy := hfr y (List.mem_of_getElem? e)
  obtain ⟨c, h1, h2⟩ := hc y hy
  refine ⟨c, h2, fun v ev => ?_⟩
  obtain ⟨j, n1, n2⟩ := hv i y v e ev
  have kc : X.env.scope.names.lookup y = some .cell := hfree (y, .free) hy rfl
  obtain ⟨m, _, hl⟩ := I.loc
  obtain ⟨u, ru, lk⟩ := hl j y v n1 n2 (.inr (.inl kc))
  rcases lk with ⟨k, _⟩ | ⟨_, c', e1, e2⟩
  · have k' : X.env.scope.names.lookup y = some .local := k
    rw [kc] at k'
    cases k'
  · rw [h1] at e1
    cases e1
    exact ⟨u, ru, e2⟩
theorem cells_off (I : Inv X pins σ H s) (hfn : ∀ y, X.fn y = true) {names : List (Str × NameKind)} (hfree : ∀ y ∈ names, y.2 = .free → X.env.scope.names.lookup y.1 = some .cell) : ∀ y c, (cloFrom X.env.cells names []).lookup y = some c → c ∉ frs X.stack := fun y c e hb => by
  obtain ⟨hy, ec⟩ := clo_at e
  obtain ⟨c', e'⟩ := I.ok.has y (.inl (hfree (y, .free) hy rfl))
  have ee : c = c' := by rw [ec, e']; rfl
  subst ee
  rcases List.mem_cons.mp (I.stkSub c hb) with z | z
  · exact I.cne y c e' z
  · obtain ⟨_, o, ho, _⟩ := I.ok.funs.mem z
    exact absurd (Nat.lt_of_lt_of_le (Heap.lt_size ho) (I.ok.cab y c (hfn y) e')) (Nat.lt_irrefl _)
end
end Sky
set_option Elab.async false
set_option linter.all false
set_option maxRecDepth 100000
set_option maxHeartbeats 4000000
namespace Sky
open PySem PySem.Spec PyProof.Rows L2 LamX NdefX
/-! ### data of the package -/
def seqD : PyData → Option (List PyData)
  | .list xs => some xs
  | .tuple xs => some xs
  | _ => none
def rowD (d : PyData) (m : Int) : Bool := match seqD d with
  | some ds => decide ((ds.length : Int) = m)
  | none => false
def letters : Str := "abcdefghijklmnopqrstuvwxyz"
def nmS (z : Str) : Bool := decide (0 < z.length) && (decide (z.length < 9) && z.cps.toList.all fun c => decide (c ∈ letters.cps.toList))
def nmD : PyData → Bool
  | .str z => nmS z
  | _ => false
def whD : PyData → Bool
  | .int _ => true
  | _ => false
def posD : PyData → Bool
  | .int i => decide (0 < i)
  | _ => false
def roomD (d : PyData) : Bool := match seqD d with
  | some [a, b] => nmD a && posD b
  | _ => false
/-- texts are not too long -/
def sS (d : PyData) : Prop := ∀ z, d = .str z → z.length ≤ sizeLine
section
variable {P : Program} {w : World} {K : PySem.W.Frag} {mg : Str → Option Value} {base : Heap} {T : List NTab}
/-- data that are a list or a tuple -/
theorem Rp.seq {H : Hp} {x : V} {d : PyData} {ds : List PyData} (h : Rp K H x d) (e : seqD d = some ds) : ∃ a xs t, x = .ref a ∧ d = (if t then .list ds else .tuple ds) ∧ SqB t K H a xs ∧ RpA K H xs ds := by
  cases h with
  | lst h1 h2 => cases e; exact ⟨_, _, true, rfl, rfl, SqL.of h1, h2⟩
  | tup h1 h2 => cases e; exact ⟨_, _, false, rfl, rfl, h1, h2⟩
  | _ => cases e
theorem seq_isa (d : PyData) : [Tg.lst, .tup].any (tgD d).isa = (seqD d).isSome := by cases d <;> rfl

abbrev s_is_list : Stmt := top 2
abbrev n_is_list : List Str := ["thing"]
theorem sc_is_list : FnScope n_is_list ["thing"] (defScope s_is_list) := ⟨rfl, rfl, rfl, by decide +kernel, rfl, by decide +kernel, by decide +kernel⟩
def sp_is_list (K : PySem.W.Frag) (T : List NTab) : Sp := fun vs H Q _ => ∃ x g, vs = [x] ∧ TgOf K H x g ∧ ∀ H', Kp T [] H H' → Q (.bl ([Tg.lst, .tup].any g.isa)) H'
theorem TgOf.ke {H H' : Hp} {x : V} {g : Tg} (h : TgOf K H x g) (k : Ke H H') : TgOf K H' x g := by
  cases h with
  | non => exact .non
  | bl b => exact .bl b
  | int b => exact .int b
  | str b => exact .str b
  | lst h => exact .lst (k.lq h)
  | tup h => exact .tup (k.tq h)
  | dK h => exact .dK (k.rd (fun _ z => by cases z) h)
  | dT h => exact .dT (k _ _ h fun _ z => by cases z)
theorem d_is_list (B : Blt mg) (F : TopFn K mg "is_list" s_is_list) : DefOk P w K mg base 1 "is_list" (sp_is_list K T) := by
  refine F.ok sc_is_list (fun _ _ _ _ _ _ us hl => match us, hl with | [_], _ => rfl) (fun vs H Q E h => ?_) (fun f cdv A outer s H vs Q E hr h => ?_)
  · obtain ⟨x, g, rfl, _⟩ := h
    rfl
  · obtain ⟨x, g, rfl, tg, k⟩ := h
    refine ⟨_, (pss_one (ps_ret (e_isiN B (pa_cons (pv 0) (pa_cons (pe_tup (pa_cons (e_ty "list" B.list) (pa_cons (e_ty "tuple" B.tuple) pa_nil))) pa_nil))))), ?_⟩
    refine ⟨_, rfl, by show 2 ≤ sizeLine; decide, fun p hp => ?_⟩
    exact ⟨_, p, [.lst, .tup], _, rfl, upd_same, tg.ke (Ke.new hp), k _ (Kp.new hp)⟩

abbrev s_is_whole : Stmt := top 3
abbrev n_is_whole : List Str := ["thing"]
theorem sc_is_whole : FnScope n_is_whole ["thing"] (defScope s_is_whole) := ⟨rfl, rfl, rfl, by decide +kernel, rfl, by decide +kernel, by decide +kernel⟩
def sp_is_whole (K : PySem.W.Frag) : Sp := fun vs H Q _ => ∃ x g, vs = [x] ∧ TgOf K H x g ∧ Q (.bl (decide (g = .int))) H
theorem d_is_whole (B : Blt mg) (F : TopFn K mg "is_whole" s_is_whole) : DefOk P w K mg base 1 "is_whole" (sp_is_whole K) := by
  refine F.ok sc_is_whole (fun _ _ _ _ _ _ us hl => match us, hl with | [_], _ => rfl) (fun vs H Q E h => ?_) (fun f cdv A outer s H vs Q E hr h => ?_)
  · obtain ⟨x, g, rfl, _⟩ := h
    rfl
  · obtain ⟨x, g, rfl, tg, k⟩ := h
    refine ⟨_, (pss_one (ps_ret (pe_and (e_isi B (pa_cons (pv 0) (pa_cons (e_ty "int" B.int) pa_nil))) (pe_one (pe_not (e_isi B (pa_cons (pv 0) (pa_cons (e_ty "bool" B.bool) pa_nil)))))))), ?_⟩
    refine ⟨_, rfl, _, .int, g, rfl, tg, _, rfl, ?_⟩
    refine ite2 (fun h1 => ⟨_, rfl, _, .bl, g, rfl, tg, _, rfl, ?_⟩) (fun h1 => ?_)
    · have e : (!(g.isa .bl)) = decide (g = .int) := by cases g <;> first | rfl | (simp [Tg.isa] at h1)
      show Q _ _
      rw [e]
      exact k
    · have e : false = decide (g = .int) := by cases g <;> first | rfl | (simp [Tg.isa] at h1)
      show Q _ _
      rw [e]
      exact k

abbrev s_is_row : Stmt := top 4
abbrev n_is_row : List Str := ["thing", "many"]
theorem sc_is_row : FnScope n_is_row ["thing", "many"] (defScope s_is_row) := ⟨rfl, rfl, rfl, by decide +kernel, rfl, by decide +kernel, by decide +kernel⟩
def sp_is_row (K : PySem.W.Frag) (T : List NTab) : Sp := fun vs H Q _ => ∃ x d m, vs = [x, .int m] ∧ Rp K H x d ∧ ∀ H', Kp T [] H H' → Q (.bl (rowD d m)) H'
theorem d_is_row (B : Blt mg) (G : DefOk P w K mg base 1 "is_list" (sp_is_list K T)) (F : TopFn K mg "is_row" s_is_row) : DefOk P w K mg base 2 "is_row" (sp_is_row K T) := by
  refine F.ok sc_is_row (fun _ _ _ _ _ _ us hl => match us, hl with | [_, _], _ => rfl) (fun vs H Q E h => ?_) (fun f cdv A outer s H vs Q E hr h => ?_)
  · obtain ⟨x, g, m, rfl, _⟩ := h
    rfl
  · obtain ⟨x, d, m, rfl, rp, k⟩ := h
    refine ⟨_, (pss_one (ps_ret (pe_and (pe_d G hr (pa_cons (pv 0) pa_nil)) (pe_one (pe_cmpR op_eq (e_len B (pa_cons (pv 0) pa_nil)) (pv 1) (nomark _)))))), ?_⟩
    refine ⟨_, rfl, x, _, rfl, rp.tg, fun H1 K1 => ⟨_, rfl, ?_⟩⟩
    rw [seq_isa]
    cases e : seqD d with
    | none =>
      have e2 : false = rowD d m := by unfold rowD; rw [e]
      refine iteF ?_
      show Q _ _
      rw [e2]
      exact k _ K1
    | some ds =>
      obtain ⟨a, xs, t, rfl, -, hq, hA⟩ := rp.seq e
      refine iteT ⟨_, rfl, _, _, rfl, (hq.ke K1.ke0).len, _, rfl, ?_⟩
      have e2 : decide (V.int (xs.length : Int) = V.int m) = rowD d m := by unfold rowD; rw [e, hA.length]; simp
      exact ⟨rfl, by rw [e2]; exact k _ K1⟩
theorem K0 {H : Hp} : Kp T [] H H := .refl
/-- a comprehension of bools, the heap as it was at each turn -/
theorem lc_bools {J : It} {n : Nat} {G : Hp → Prop} {Y : Nat → Hp → V → Hp → Prop} {g : TG} {tt : TT} {te : TE} {vs : List Nat} {σ : L2.St} {H1 : Hp} {D : Addr} {Qd : Hp → Prop} (W : Walk J n G Y) (T : List NTab) (hD : H1 D = none) (hn : n ≤ sizeLine) (b : Nat → Bool)
    (hG : ∀ H', Kp T [D] H1 H' → G H')
    (hs : ∀ (i : Nat) (x : V) (H' H'' : Hp) (Q : VK) (Qn : Hp → Prop), i < n → Kp T [D] H1 H' → Y i H' x H'' → (∀ H3, Kp T [] H' H3 → Q (.bl (b i)) H3) →
      g x (wipe σ vs) H'' fun σ2 H2 => wipe σ2 vs = wipe σ vs ∧ tt σ2 H2 fun c H3 => if c = true then te σ2 H3 Q else Qn H3)
    (hd : ∀ H', Kp T [D] H1 H' → H' D = some (.lst (((List.range n).map b).map V.bl)) → Qd H') :
    ∃ W : Nat → Nat → Hp → Prop, (∃ m, W 0 m (upd H1 D (.lst []))) ∧ ∀ i m H, W i m H →
      (J.stop i H ∧ Qd H) ∨ (J.go i H ∧ ∃ Nx : Hp → Prop, (∀ H', Nx H' → ∃ m', m' < m ∧ W (i + 1) m' H') ∧ ∀ x H', J.yld i H x H' → g x (wipe σ vs) H' fun σ2 H2 => wipe σ2 vs = wipe σ vs ∧ tt σ2 H2 fun b H3 =>
        if b = true then te σ2 H3 fun y H4 => ∃ acc, H4 D = some (.lst acc) ∧ acc.length < sizeLine ∧ Nx (upd H4 D (.lst (acc ++ [y]))) else Nx H3) := by
  refine lc_acc W T [] hD (by simp) hn (fun i acc H' => acc = ((List.range i).map b).map V.bl) rfl hG (fun i x acc H' H'' Q Qn hi hl k hDa R y hk hn => ?_) fun H' acc k R hDa hl => ?_
  · refine hs i x H' H'' Q Qn hi k y fun H3 k3 => hk _ H3 k3 ?_
    rw [R, List.range_succ, List.map_append, List.map_append]
    rfl
  · exact hd H' k (by rw [hDa, R])

abbrev s_is_name : Stmt := top 5
abbrev n_is_name : List Str := ["thing", "sign"]
theorem sc_is_name : FnScope n_is_name ["thing"] (defScope s_is_name) := ⟨rfl, rfl, rfl, by decide +kernel, rfl, by decide +kernel, by decide +kernel⟩
def sp_is_name (K : PySem.W.Frag) (T : List NTab) : Sp := fun vs H Q _ => ∃ x d, vs = [x] ∧ Rp K H x d ∧ sS d ∧ ∀ H', Kp T [] H H' → Q (.bl (nmD d)) H'
theorem d_is_name (B : Blt mg) (hL : ∃ t, mg "LETTERS" = some (.str letters t)) (F : TopFn K mg "is_name" s_is_name) : DefOk P w K mg base 1 "is_name" (sp_is_name K T) := by
  obtain ⟨tL, hL⟩ := hL
  refine F.ok sc_is_name (fun _ _ _ _ _ _ us hl => match us, hl with | [_], _ => rfl) (fun vs H Q E h => ?_) (fun f cdv A outer s H vs Q E hr h => ?_)
  · obtain ⟨x, g, rfl, _⟩ := h
    rfl
  · obtain ⟨x, d, rfl, rp, hs, k⟩ := h
    refine ⟨_, (pss_one (ps_ret (pe_and (e_isi B (pa_cons (pv 0) (pa_cons (e_ty "str" B.str) pa_nil))) (pe_and (pe_chain op_lt op_lt pe_int (e_len B (pa_cons (pv 0) pa_nil)) pe_int) (pe_one (e_all B (pa_cons (pe_lc (own := [("sign", 1)]) (g := gName 1) (tt := tYes) (by rfl) sc_is_name.nd (pi_str (pv 0)) (blkOk_by (N := n_is_name) (sc := defScope s_is_name) (by decide +kernel)) (fun _ _ _ _ _ => (pg_name (i := 1) sc_is_name.nd rfl (Or.inl rfl))) (fun _ _ _ _ _ => pts_nil) (fun _ _ _ _ _ => (pe_cmpR op_in_sign (pv 1) (pe_glob (v := .str letters) rfl hL ⟨_, rfl⟩) (by with_unfolding_all rfl)))) pa_nil))))))), ?_⟩
    refine ⟨_, rfl, _, .str, _, rfl, rp.tg, _, rfl, ?_⟩
    cases rp with
    | str z =>
      refine iteT ?_
      have hz := hs z rfl
      have el : ((z.length : Int) < 9) ↔ z.length < 9 := by omega
      have e0 : ((0 : Int) < (z.length : Int)) ↔ 0 < z.length := by omega
      refine ⟨_, rfl, _, z.length, rfl, ⟨hz, rfl⟩, _, _, rfl, rfl, _, rfl, ite2 (fun h1 => ?_) fun h1 => ?_⟩
      · have h1 : (0 : Int) < (z.length : Int) := of_decide_eq_true h1
        refine ⟨_, _, rfl, rfl, _, rfl, ite2 (fun h2 => ?_) fun h2 => ?_⟩
        · have h2 : (z.length : Int) < 9 := of_decide_eq_true h2
          refine ⟨_, rfl, z, rfl, fun D hD => ?_⟩
          refine lc_bools (T := T) walk_str hD (b := fun i => (z.cps.toList[i]?).any fun c => decide (c ∈ letters.cps.toList)) ?_ (fun _ _ => trivial) (fun i x H' H'' Q' Qn hi k' y hk => ?_) (fun H' k' hDa => ?_)
          · show z.length ≤ sizeLine
            exact hz
          · obtain ⟨rfl, c, ec, rfl⟩ := y
            refine ⟨rfl, _, rfl, c, letters, rfl, rfl, ?_⟩
            have e : z.cps.toList[i]? = some c := by simpa using ec
            have q := hk H'' K0
            rw [e] at q
            exact q
          · refine ⟨D, _, rfl, SqL.of hDa, ?_⟩
            have e : (List.map (fun i => (z.cps.toList[i]?).any fun c => decide (c ∈ letters.cps.toList)) (List.range z.cps.size)).all id = nmD (.str z) := by
              have e1 : decide (0 < z.length) = true := decide_eq_true (e0.mp h1)
              have e2 : decide (z.length < 9) = true := decide_eq_true (el.mp h2)
              show _ = nmS z
              unfold nmS
              rw [e1, e2, Bool.true_and, Bool.true_and]
              rw [Bool.eq_iff_iff, List.all_eq_true, List.all_eq_true]
              constructor
              · intro h c hc
                obtain ⟨i, hi⟩ := List.mem_iff_getElem?.mp hc
                have hlt : i < z.cps.toList.length := (List.getElem?_eq_some_iff.mp hi).1
                have q := h _ (List.mem_map.mpr ⟨i, List.mem_range.mpr (by simpa using hlt), rfl⟩)
                rw [hi] at q
                exact q
              · intro h b hb
                obtain ⟨i, hi, rfl⟩ := List.mem_map.mp hb
                have hlt : i < z.cps.toList.length := by simpa using List.mem_range.mp hi
                have e3 : z.cps.toList[i]? = some z.cps.toList[i] := by simp [hlt]
                rw [e3]
                exact h _ (List.mem_of_getElem? e3)
            rw [e]
            exact k _ (k'.drop hD)
        · have e : nmD (.str z) = false := by
            have e2 : decide (z.length < 9) = false := decide_eq_false fun z => h2 (decide_eq_true (el.mpr z))
            show nmS z = false
            unfold nmS
            rw [e2, Bool.false_and, Bool.and_false]
          have q := k H K0
          rw [e] at q
          exact q
      · have e : nmD (.str z) = false := by
          have e2 : decide (0 < z.length) = false := by
            simpa using h1
          show nmS z = false
          unfold nmS
          rw [e2, Bool.false_and]
        refine ⟨_, rfl, iteF ?_⟩
        have q := k H K0
        rw [e] at q
        exact q
    | _ => exact iteF (k H K0)

abbrev s_itself : Stmt := top 7
abbrev n_itself : List Str := ["thing"]
theorem sc_itself : FnScope n_itself ["thing"] (defScope s_itself) := ⟨rfl, rfl, rfl, by decide +kernel, rfl, by decide +kernel, by decide +kernel⟩
def sp_itself : Sp := fun vs H Q _ => ∃ x, vs = [x] ∧ Q x H
theorem d_itself (F : TopFn K mg "itself" s_itself) : DefOk P w K mg base 1 "itself" sp_itself := by
  refine F.ok sc_itself (fun _ _ _ _ _ _ us hl => match us, hl with | [_], _ => rfl) (fun vs H Q E h => ?_) (fun f cdv A outer s H vs Q E hr h => ?_)
  · obtain ⟨x, rfl, _⟩ := h
    rfl
  · obtain ⟨x, rfl, k⟩ := h
    exact ⟨_, (pss_one (ps_ret (pv 0))), _, rfl, k⟩

abbrev s_is_room : Stmt := top 14
abbrev n_is_room : List Str := ["thing"]
theorem sc_is_room : FnScope n_is_room ["thing"] (defScope s_is_room) := ⟨rfl, rfl, rfl, by decide +kernel, rfl, by decide +kernel, by decide +kernel⟩
def sp_is_room (K : PySem.W.Frag) (T : List NTab) : Sp := fun vs H Q _ => ∃ x d, vs = [x] ∧ Rp K H x d ∧ (∀ ds, seqD d = some ds → ∀ e ∈ ds, sS e) ∧ ∀ H', Kp T [] H H' → Q (.bl (roomD d)) H'
theorem rIx_of {H : Hp} {t : Bool} {a : Addr} {xs : List V} {i : Nat} {v : V} {Q : VK} (h : SqB t K H a xs) (e : xs[i]? = some v) (q : Q v H) : rIx K (.ref a) (.int (i : Int)) H Q := by
  cases t with
  | true => exact .inl ⟨a, xs, _, _, rfl, rfl, h, atI_nat e, q⟩
  | false => exact .inr (.inl ⟨a, xs, _, _, rfl, rfl, h, atI_nat e, q⟩)
theorem d_is_room (B : Blt mg) (G1 : DefOk P w K mg base 2 "is_row" (sp_is_row K T)) (G2 : DefOk P w K mg base 1 "is_name" (sp_is_name K T)) (G3 : DefOk P w K mg base 1 "is_whole" (sp_is_whole K)) (F : TopFn K mg "is_room" s_is_room) :
    DefOk P w K mg base 3 "is_room" (sp_is_room K T) := by
  refine F.ok sc_is_room (fun _ _ _ _ _ _ us hl => match us, hl with | [_], _ => rfl) (fun vs H Q E h => ?_) (fun f cdv A outer s H vs Q E hr h => ?_)
  · obtain ⟨x, d, rfl, _⟩ := h
    rfl
  · obtain ⟨x, d, rfl, rp, hs, k⟩ := h
    refine ⟨_, (pss_one (ps_ret (pe_and (pe_d G1 hr (pa_cons (pv 0) (pa_cons pe_int pa_nil))) (pe_and (pe_d G2 hr (pa_cons (pe_ix ix_seq (pv 0) pe_int (fun _ _ => rfl)) pa_nil)) (pe_and (pe_d G3 hr (pa_cons (pe_ix ix_seq (pv 0) pe_int (fun _ _ => rfl)) pa_nil)) (pe_one (pe_cmpR op_gt (pe_ix ix_seq (pv 0) pe_int (fun _ _ => rfl)) pe_int (nomark _)))))))), ?_⟩
    refine ⟨_, rfl, x, d, 2, rfl, rp, fun H1 K1 => ⟨_, rfl, ?_⟩⟩
    cases e : seqD d with
    | none =>
      have e1 : rowD d 2 = false := by unfold rowD; rw [e]
      have e2 : roomD d = false := by unfold roomD; rw [e]
      rw [e1]
      refine iteF ?_
      have q := k H1 K1
      rw [e2] at q
      exact q
    | some ds =>
      have e1 : rowD d 2 = decide (ds.length = 2) := by unfold rowD; rw [e]; show decide ((ds.length : Int) = 2) = _; congr 1; apply propext; omega
      rw [e1]
      refine ite2 (fun h2 => ?_) fun h2 => ?_
      · have h2 : ds.length = 2 := of_decide_eq_true h2
        match ds, h2 with
        | [d1, d2], _ =>
          have e2 : roomD d = (nmD d1 && posD d2) := by unfold roomD; rw [e]
          rw [e2] at k
          obtain ⟨a, xs, t, rfl, -, hq, hA⟩ := rp.seq e
          have hs := hs _ e
          cases hA with
          | cons r1 hA =>
            cases hA with
            | cons r2 hA =>
              cases hA
              rename_i v1 v2
              have hq1 := hq.ke K1.ke0
              refine ⟨_, rfl, rIx_of (i := 0) hq1 rfl ⟨_, d1, rfl, r1.ke K1.ke0, hs d1 (by simp), fun H2 K2 => ⟨_, rfl, ite2 (fun h1 => ?_) fun h1 => ?_⟩⟩⟩
              · rw [h1, Bool.true_and] at k
                have K2 := K1.trans K2
                refine ⟨_, rfl, rIx_of (i := 1) (hq.ke K2.ke0) rfl ⟨_, _, rfl, (r2.ke K2.ke0).tg, _, rfl, ite2 (fun h3 => ?_) fun h3 => ?_⟩⟩
                · refine ⟨_, rfl, rIx_of (i := 1) (hq.ke K2.ke0) rfl ?_⟩
                  cases r2 with
                  | int i => exact ⟨_, _, rfl, rfl, k _ K2⟩
                  | _ => simp [tgD] at h3
                · have e3 : posD d2 = false := by
                    cases d2 <;> first | rfl | (simp [tgD] at h3)
                  have q := k _ K2
                  rw [e3] at q
                  exact q
              · have q := k _ (K1.trans K2)
                rw [show nmD d1 = false by simpa using h1] at q
                exact q
      · have e2 : roomD d = false := by
          unfold roomD
          rw [e]
          split
          · rename_i a b h
            cases h
            simp at h2
          · rfl
        have q := k H1 K1
        rw [e2] at q
        exact q
end
end Sky
set_option Elab.async false
set_option linter.all false
set_option maxRecDepth 100000
set_option maxHeartbeats 4000000
/-! Sky H: keys that are a number, a text, or a tuple of such; dicts of either kind as lists of keys; the first bad one of a row. -/
namespace Sky
open PySem PySem.Spec PyProof.Rows L2 LamX NdefX
/-- y stands for the key k: alone (tm = false), or as a tuple -/
def KAt (tm : Bool) (H : Hp) (y : V) (k : List Key) : Prop := match tm with
  | false => ∃ k0, k = [k0] ∧ y = kV k0
  | true => ∃ b, y = .ref b ∧ H b = some (.tup (k.map kV))
/-- the keys of the dict at p -/
def DAt (tm : Bool) (H : Hp) (p : Addr) (ks : List (List Key)) : Prop := match tm with
  | false => ∃ kvs : List (Key × V), H p = some (.dK kvs) ∧ kvs.length = ks.length ∧ ∀ k, (valV kvs k).isSome = true ↔ [k] ∈ ks
  | true => ∃ kvs : List (List Key × V), H p = some (.dT kvs) ∧ kvs.length = ks.length ∧ ∀ k, (valV kvs k).isSome = true ↔ k ∈ ks
theorem KAt.ke {tm : Bool} {H H' : Hp} {y : V} {k : List Key} (h : KAt tm H y k) (e : Ke H H') : KAt tm H' y k := by
  cases tm with
  | false => exact h
  | true =>
    obtain ⟨b, e1, e2⟩ := h
    exact ⟨b, e1, e _ _ e2 fun _ z => by cases z⟩
theorem DAt.at {tm : Bool} {H H' : Hp} {p : Addr} {ks : List (List Key)} (h : DAt tm H p ks) (e : H' p = H p) : DAt tm H' p ks := by
  cases tm with
  | false => obtain ⟨kvs, h1, h2⟩ := h; exact ⟨kvs, e.trans h1, h2⟩
  | true => obtain ⟨kvs, h1, h2⟩ := h; exact ⟨kvs, e.trans h1, h2⟩
theorem DAt.kp {tm : Bool} {H H' : Hp} {p : Addr} {ks : List (List Key)} {T : List NTab} {l : List Addr} (h : DAt tm H p ks) (k : Kp T l H H') (hp : p ∉ l) : DAt tm H' p ks := by
  cases tm with
  | false => obtain ⟨kvs, h1, h2⟩ := h; exact ⟨kvs, k.dK hp h1, h2⟩
  | true => obtain ⟨kvs, h1, h2⟩ := h; exact ⟨kvs, k.dT hp h1, h2⟩
theorem DAt.get {tm : Bool} {H : Hp} {p : Addr} {ks : List (List Key)} {y : V} {k : List Key} (h : DAt tm H p ks) (hk : KAt tm H y k) : ∃ o, DGet H p y o ∧ (o.isSome = true ↔ k ∈ ks) := by
  cases tm with
  | false =>
    obtain ⟨kvs, h1, -, h2⟩ := h
    obtain ⟨k0, rfl, rfl⟩ := hk
    exact ⟨_, DGet.k h1, h2 k0⟩
  | true =>
    obtain ⟨kvs, h1, -, h2⟩ := h
    obtain ⟨b, rfl, e⟩ := hk
    exact ⟨_, DGet.t h1 e, h2 k⟩
theorem putK_length_new {κ : Type} [DecidableEq κ] {kvs : List (κ × V)} {k : κ} {v : V} (h : valV kvs k = none) : (putK kvs k v).length = kvs.length + 1 := by
  rw [putK_new v h, List.length_append, List.length_singleton]
theorem DAt.put {tm : Bool} {H : Hp} {p : Addr} {ks : List (List Key)} {y v : V} {k : List Key} (h : DAt tm H p ks) (hk : KAt tm H y k) (hn : k ∉ ks) (hl : ks.length < sizeLine) : ∃ o, DPut H p y v (upd H p o) ∧ DAt tm (upd H p o) p (ks ++ [k]) := by
  cases tm with
  | false =>
    obtain ⟨kvs, h1, h3, h2⟩ := h
    obtain ⟨k0, rfl, rfl⟩ := hk
    have e0 : valV kvs k0 = none := by
      have q := h2 k0
      cases z : valV kvs k0 with
      | none => rfl
      | some x =>
        rw [z] at q
        exact (hn (q.mp rfl)).elim
    refine ⟨_, DPut.k h1 (by omega), _, upd_same, by rw [putK_length_new e0, List.length_append, h3]; rfl, fun j => ?_⟩
    rw [valV_put]
    by_cases hj : j = k0
    · subst hj
      simp
    · rw [if_neg hj, h2]
      simp [hj]
  | true =>
    obtain ⟨kvs, h1, h3, h2⟩ := h
    obtain ⟨b, rfl, e⟩ := hk
    have e0 : valV kvs k = none := by
      have q := h2 k
      cases z : valV kvs k with
      | none => rfl
      | some x =>
        rw [z] at q
        exact (hn (q.mp rfl)).elim
    refine ⟨_, DPut.t h1 e (by omega), _, upd_same, by rw [putK_length_new e0, List.length_append, h3]; rfl, fun j => ?_⟩
    rw [valV_put]
    by_cases hj : j = k
    · subst hj
      simp
    · rw [if_neg hj, h2]
      simp [hj]
/-- a new one of either kind -/
theorem dnew_at {tm : Bool} {σ : L2.St} {H : Hp} {Q : VK} (h : ∀ p o, H p = none → (∀ xs, o ≠ .tbl xs) → DAt tm (upd H p o) p [] → Q (.ref p) (upd H p o)) : tDNew σ H Q := by
  cases tm with
  | false => exact .inl fun p hp => h p (.dK []) hp (fun _ z => by cases z) ⟨[], upd_same, rfl, fun k => by simp [valV]⟩
  | true => exact .inr fun p hp => h p (.dT []) hp (fun _ z => by cases z) ⟨[], upd_same, rfl, fun k => by simp [valV]⟩
/-- what is at p alone changes -/
theorem Kp.updA {T : List NTab} {l : List Addr} {H : Hp} {p : Addr} {o : HO} {tm : Bool} {ks : List (List Key)} (hp : p ∈ l) (h : DAt tm H p ks) : Kp T l H (L2.upd H p o) := by
  have hx : (∃ kvs, H p = some (.dK kvs)) ∨ ∃ kvs, H p = some (.dT kvs) := by
    cases tm with
    | false => obtain ⟨kvs, h1, _⟩ := h; exact .inl ⟨_, h1⟩
    | true => obtain ⟨kvs, h1, _⟩ := h; exact .inr ⟨_, h1⟩
  refine ⟨fun b u n e _ => ?_, fun t q hq => ?_, fun b => upd_none'⟩
  · have nb : b ≠ p := fun z => n (z ▸ hp)
    rw [upd_ne nb]
    exact e
  · obtain ⟨ps, h1, h2, h3⟩ := t q hq
    have nb : ∀ b u, H b = some u → (∀ fs, u ≠ .dK fs) → (∀ fs, u ≠ .dT fs) → b ≠ p := fun b u e n n' z => by
      rw [z] at e
      rcases hx with ⟨kvs, hx⟩ | ⟨kvs, hx⟩ <;> rw [hx] at e <;> cases e
      · exact n _ rfl
      · exact n' _ rfl
    refine ⟨ps, by rw [upd_ne (nb _ _ h1 (fun _ z => by cases z) fun _ z => by cases z)]; exact h1, h2, fun pos cv hc => ?_⟩
    obtain ⟨c, e1, e2⟩ := h3 pos cv hc
    exact ⟨c, e1, by rw [upd_ne (nb _ _ e2 (fun _ z => by unfold CodeO at z; cases z) fun _ z => by unfold CodeO at z; cases z)]; exact e2⟩
/-! ### the first bad one -/
/-- all below n are right and have unlike keys -/
def okTo (ok : Nat → Bool) (ky : Nat → List Key) (n : Nat) : Prop := ∀ i, i < n → ok i = true ∧ ky i ∉ (List.range i).map ky
/-- the first bad one is the n-th -/
def badAt (ok : Nat → Bool) (ky : Nat → List Key) (n : Nat) : Prop := okTo ok ky n ∧ (ok n = false ∨ ky n ∈ (List.range n).map ky)
end Sky
set_option Elab.async false
set_option linter.all false
set_option maxRecDepth 100000
set_option maxHeartbeats 4000000
namespace Sky
open PySem PySem.Spec PyProof.Rows L2 LamX NdefX
section
variable {P : Program} {w : World} {K : PySem.W.Frag} {mg : Str → Option Value} {base : Heap} {T : List NTab}
abbrev s_first_bad : Stmt := top 6
abbrev n_first_bad : List Str := ["things", "is_right", "key_of", "known", "index", "thing"]
theorem sc_first_bad : FnScope n_first_bad ["things", "is_right", "key_of"] (defScope s_first_bad) := ⟨rfl, rfl, rfl, by decide +kernel, rfl, by decide +kernel, by decide +kernel⟩
/-- what the test is to tell -/
def sp_right (T : List NTab) (H0 : Hp) (xs : List V) (ok : Nat → Bool) : Sp := fun vs H Q _ => ∃ i x, vs = [x] ∧ xs[i]? = some x ∧ Kp T [] H0 H ∧ ∀ H', Kp T [] H H' → Q (.bl (ok i)) H'
/-- what the key is to tell -/
def sp_key (T : List NTab) (H0 : Hp) (xs : List V) (ok : Nat → Bool) (tm : Bool) (ky : Nat → List Key) : Sp := fun vs H Q _ => ∃ i x, vs = [x] ∧ xs[i]? = some x ∧ ok i = true ∧ Kp T [] H0 H ∧ ∀ y H', Kp T [] H H' → KAt tm H' y (ky i) → Q y H'
def sp_first_bad (P : Program) (w : World) (K : PySem.W.Frag) (mg : Str → Option Value) (base : Heap) (T : List NTab) (k : Nat) : SpS := fun fs s vs H Q _ =>
  (∃ x g r u, vs = [x, r, u] ∧ TgOf K H x g ∧ [Tg.lst, .tup].any g.isa = false ∧ ∀ H', Kp T [] H H' → Q (.int 0) H') ∨
  ∃ a xs t r u ok tm ky, vs = [.ref a, r, u] ∧ SqB t K H a xs ∧ Cb P w K mg base k fs s H r (sp_right T H xs ok) ∧ Cb P w K mg base k fs s H u (sp_key T H xs ok tm ky) ∧
    (okTo ok ky xs.length → ∀ H', Kp T [] H H' → Q .non H') ∧ ∀ n, n < xs.length → badAt ok ky n → ∀ H', Kp T [] H H' → Q (.int (n : Int)) H'
theorem d_first_bad (B : Blt mg) (G : DefOk P w K mg base 1 "is_list" (sp_is_list K T)) (F : TopFn K mg "first_bad" s_first_bad) (k : Nat) : DefOkS P w K mg base (k + 2) "first_bad" (sp_first_bad P w K mg base T k) := by
  refine F.okS sc_first_bad (fun _ _ _ _ _ _ us hl => match us, hl with | [_, _, _], _ => rfl) (fun fs s vs H Q E h => ?_) (fun f cdv A outer s H vs Q E hr h => ?_)
  · rcases h with ⟨_, _, _, _, rfl, _⟩ | ⟨_, _, _, _, _, _, _, _, rfl, _⟩ <;> rfl
  · rcases h with ⟨x, g, r, u, rfl, tg, tgn, k'⟩ | ⟨a, xs, t, r, u, ok, tm, ky, rfl, hq, Cr, Cu, kn, kb⟩
    · refine ⟨_, (pss_cons (ps_if (pt_not (pt_val (pe_d G hr (pa_cons (pv 0) pa_nil) (Nat.succ_le_succ (Nat.zero_le _))))) (pss_one (ps_ret pe_int)) pss_nil) pss_never), ?_⟩
      refine ⟨_, rfl, x, g, rfl, tg, fun H1 K1 => ⟨_, rfl, ?_⟩⟩
      rw [tgn]
      exact iteT (k' H1 K1)
    · refine ⟨_, (pss_cons (ps_if (pt_not (pt_val (pe_d G hr (pa_cons (pv 0) pa_nil) (Nat.succ_le_succ (Nat.zero_le _))))) (pss_one (ps_ret pe_int)) pss_nil)
        (pss_cons (ps_set (i := 3) sc_first_bad.nd rfl (Or.inl rfl) pe_dnew)
        (pss_cons (ps_for PassesOwn.never rfl (pi_enumS B.enumerate (pa_cons (pv 0) pa_nil)) (pg_tup rfl (pgs_cons (pg_name (i := 4) sc_first_bad.nd rfl (Or.inl rfl)) (pgs_cons (pg_name (i := 5) sc_first_bad.nd rfl (Or.inl rfl)) pgs_nil)))
          (pss_cons (ps_if (pw_or (pt_not (pt_val (pe_cb (i := 1) Cr hr (pa_cons (pv 5) pa_nil) (Nat.le_succ _)))) (pw_or1 (pt_cmp (pc_din (hu_of hr) (pe_cb (i := 2) Cu hr (pa_cons (pv 5) pa_nil) (Nat.le_succ _)) (pv 3))))).pt (pss_one (ps_ret (pv 4))) pss_nil)
          (pss_one (ps_dput (hu_of hr) (pv 3) (pe_cb (i := 2) Cu hr (pa_cons (pv 5) pa_nil) (Nat.le_succ _)) pe_bl rfl))))
        (pss_one (ps_ret pe_non))))), ?_⟩
      refine ⟨_, rfl, _, _, rfl, hq.tg, fun H1 K1 => ⟨_, rfl, ?_⟩⟩
      have e : [Tg.lst, .tup].any ((if t then Tg.lst else Tg.tup)).isa = true := by cases t <;> rfl
      rw [e]
      refine iteF (dnew_at (tm := tm) fun p o hp ho hd => ?_)
      have K2 : Kp T [] H (upd H1 p o) := K1.trans (Kp.new hp)
      have K2p : Kp T [p] H (upd H1 p o) := K2.mono (by simp)
      have hp0 : H p = none := K1.n p hp
      generalize upd H1 p o = H2 at hd K2 K2p ⊢
      refine ⟨_, rfl, a, xs, t, rfl, hq.ke K2.ke0, fun J Gj hsz W hG => ?_⟩
      have fx : ∀ {H'}, Kp T [] H H' → Fxs H H' := fun k => k.fxs0
      refine for_it W (fun i σ H' => (∃ x4 x5, σ = [some (.ref a), some r, some u, some (.ref p), x4, x5]) ∧ Kp T [] H H' ∧ DAt tm H' p ((List.range i).map ky) ∧ okTo ok ky i) ⟨⟨_, _, rfl⟩, K2, hd, fun i hi => absurd hi (Nat.not_lt_zero _)⟩ (fun i σ H' _ pv => hG H' (hq.ke pv.2.1.ke0)) (fun i y σ H' H'' hi pv yy => ?_) fun σ H' pv => ?_
      · obtain ⟨⟨x4, x5, rfl⟩, k3, d3, o3⟩ := pv
        obtain ⟨T0, x, y, rfl, n0, rfl, ex, ey⟩ := yy
        cases ex
        have np : p ≠ T0 := fun z => by
          have q := n0
          rw [← z] at q
          cases tm with
          | false => obtain ⟨kvs, h1, _⟩ := d3; rw [h1] at q; cases q
          | true => obtain ⟨kvs, h1, _⟩ := d3; rw [h1] at q; cases q
        have k4 : Kp T [] H (upd H' T0 (.tup [.int (i : Nat), y])) := k3.trans (Kp.new n0)
        have d4 : DAt tm (upd H' T0 (.tup [.int (i : Nat), y])) p ((List.range i).map ky) := d3.at (upd_ne np)
        refine ⟨T0, _, rfl, SqT.of upd_same, rfl, _, _, rfl, _, _, rfl, rfl, ?_⟩
        generalize upd H' T0 (.tup [.int (i : Nat), y]) = H4 at k4 d4 ⊢
        refine ⟨rfl, fx k4, _, rfl, fx k4, i, y, rfl, ey, k4, fun H5 k5 => ⟨_, rfl, ?_⟩⟩
        have k5' := k4.trans k5
        have d5 := d4.kp k5 (by simp)
        cases hok : ok i with
        | false => exact iteT (iteT ⟨_, rfl, kb i hi ⟨o3, .inl hok⟩ H5 k5'⟩)
        | true =>
          refine iteF ⟨rfl, fx k5', _, rfl, fx k5', i, y, rfl, ey, hok, k5', fun z H6 k6 hz => ⟨_, rfl, ?_⟩⟩
          have k6' := k5'.trans k6
          have d6 := d5.kp k6 (by simp)
          obtain ⟨o, g1, g2⟩ := d6.get hz
          refine ⟨p, o, rfl, g1, _, rfl, ?_⟩
          by_cases hm : ky i ∈ (List.range i).map ky
          · rw [g2.mpr hm]
            exact iteT ⟨_, rfl, kb i hi ⟨o3, .inr hm⟩ H6 k6'⟩
          · have e : o.isSome = false := by
              cases z : o.isSome with
              | false => rfl
              | true => exact (hm (g2.mp z)).elim
            rw [e]
            refine iteF ⟨_, rfl, rfl, fx k6', _, rfl, fx k6', i, y, rfl, ey, hok, k6', fun z' H7 k7 hz' => ?_⟩
            have d7 := d6.kp k7 (by simp)
            have k7' := k6'.trans k7
            obtain ⟨o', g3, g4⟩ := d7.put (v := .bl true) hz' hm (by rw [List.length_map, List.length_range]; exact Nat.lt_of_lt_of_le hi hsz)
            refine ⟨p, _, rfl, g3, ⟨_, _, rfl⟩, ((k7'.mono (by simp) : Kp T [p] H H7).trans (Kp.updA (by simp) d7)).drop hp0, ?_, fun j hj => ?_⟩
            · rw [List.range_succ, List.map_append]
              exact g4
            · rcases Nat.lt_succ_iff_lt_or_eq.mp hj with h | rfl
              · exact o3 j h
              · exact ⟨hok, hm⟩
      · obtain ⟨⟨x4, x5, rfl⟩, k3, d3, o3⟩ := pv
        exact kn o3 H' k3
end
end Sky
set_option Elab.async false
set_option linter.all false
set_option maxRecDepth 100000
set_option maxHeartbeats 4000000
/-! Sky I: methods of own classes, made objects. -/
namespace Sky
open PySem PySem.Spec PyProof.Rows L2 LamX NdefX
/-- the method m of the class at C stands in the text as st says -/
structure MetFn (K : PySem.W.Frag) (C : Addr) (m q : Str) (st : Stmt) : Prop where
  ex : ∃ (f : Addr) (fd : FuncData), Fun K m q st f fd ∧ Meth K C m f
/-- it keeps the promise sp, the object ahead of the arguments -/
structure MetOk (P : Program) (w : World) (K : PySem.W.Frag) (mg : Str → Option Value) (base : Heap) (k : Nat) (C : Addr) (m : Str) (sp : Sp) : Prop where
  ex : ∃ (f : Addr) (fd : FuncData) (ps : List Str), FnOk P w K mg base CX0 k f fd ps sp ∧ Meth K C m f ∧ Binds K fd ps []
section
variable {P : Program} {w : World} {K : PySem.W.Frag} {mg : Str → Option Value} {base : Heap} {C : Addr} {m q : Str} {st : Stmt} {N ps : List Str} {k j : Nat} {sp sp' : Sp}
theorem MetOk.mono (D : MetOk P w K mg base k C m sp) (h : k ≤ j) : MetOk P w K mg base j C m sp := by
  obtain ⟨f, fd, ps, F, r⟩ := D.ex
  exact ⟨f, fd, ps, F.mono h, r⟩
theorem MetFn.ok (F : MetFn K C m q st) (S : FnScope N ps (defScope st))
    (hb : ∀ (kV doc pm : Value) (an : Option Addr) (cdv ct : Value) (us : List Value), us.length = ps.length → bindArgs (PySem.W.fnOf m q (defArgs st) (defBody st) (defScope st) .none kV doc pm an cdv ct) ⟨us, []⟩ = pure (ps.zip us))
    (len : ∀ vs H Q E, sp vs H Q E → vs.length = ps.length)
    (hbody : ∀ (f : Addr) (cdv : Value) (A : Around) (outer : List Env) (s : Shared) (H : Hp) (vs : List V) (Q : VK) (E : XK), Room k (A.deeper (envOfC q (defScope st) s.heap.objs.size f cdv)) → sp vs H Q E →
      ∃ t, PSs (cxOf CX0 P w K mg base N q (defScope st) f cdv A outer s H E).nox (defBody st) t ∧ t { nx := fun _ H' => Q .non H', rt := Q } (start N vs) H) : MetOk P w K mg base (k + 1) C m sp := by
  obtain ⟨f, fd, F, hm⟩ := F.ex
  exact ⟨f, fd, ps, F.ok S len (hbody f), hm, F.binds hb⟩
/-- the reading of o.m(..) -/
def tM (C : Addr) (m : Str) (sp : Sp) (ta : TE) (t : TA) : TE := fun σ H Q => ta σ H fun x H1 => ∃ a dx fs, x = .ref a ∧ H1 a = some (.ins C dx fs) ∧ fs.lookup m = none ∧ t σ H1 fun vs H2 => sp (x :: vs) H2 Q E0
variable {X : Cx} {o e : Expr} {es : List Expr} {ta : TE} {t : TA} {apos pos : Pos}
theorem pe_m {pl : Sem Bool} (D : MetOk X.prog X.w X.K X.mg X.base k C m sp) (c : Cls X.K C) (hr : Room j X.A) (he : PE X o ta) (ha : PA X (e :: es) t) (hk : k ≤ j := by decide)
    (hst : starEach (e :: es) X.env = (false, eval e X.env) :: starEach es X.env := by rfl) (hpl : (backTo pos (starEach es X.env)).any (·.1) = false := by rfl)
    (ht : eval (.Call (.Attribute o m apos) (e :: es) [] pos) X.env = (do
      let ov ← eval o X.env
      standAt apos.atName
      let (f, first) ← holding [ov] (getMethod ov m pl)
      callWith pos f first (backTo pos (starEach (e :: es) X.env)) (backToKw pos (keywordEach [] X.env))) := by rfl) :
    PE X (.Call (.Attribute o m apos) (e :: es) [] pos) (tM C m sp ta t) := by
  obtain ⟨f, fd, ps, F, hm, b⟩ := D.ex
  have q := pe_meth (dvs := []) (ds := []) (E := E0) he c hm F (hr.mono hk) b .nil pass0 ha hst hpl ht
  refine ⟨fun pins s σ H Q I h => q.run pins s σ H Q I ?_⟩
  have e0 : tMeth C m sp [] E0 ta t σ H Q = tM C m sp ta t σ H Q := by
    unfold tMeth tM
    simp only [List.append_nil]
  rw [e0]
  exact h
theorem pe_m0 {pl : Sem Bool} (D : MetOk X.prog X.w X.K X.mg X.base k C m sp) (c : Cls X.K C) (hr : Room j X.A) (he : PE X o ta) (hk : k ≤ j := by decide)
    (ht : eval (.Call (.Attribute o m apos) [] [] pos) X.env = (do
      let ov ← eval o X.env
      standAt apos.atName
      let (f, first) ← holding [ov] (getMethod ov m pl)
      callWith pos f first (backTo pos (starEach [] X.env)) (backToKw pos (keywordEach [] X.env))) := by rfl) :
    PE X (.Call (.Attribute o m apos) [] [] pos) (tM C m sp ta tNil) := by
  obtain ⟨f, fd, ps, F, hm, b⟩ := D.ex
  have q := pe_meth0 (dvs := []) (ds := []) (E := E0) he c hm F (hr.mono hk) b .nil pass0 ht
  refine ⟨fun pins s σ H Q I h => q.run pins s σ H Q I ?_⟩
  have e0 : tMeth C m sp [] E0 ta tNil σ H Q = tM C m sp ta tNil σ H Q := by
    unfold tMeth tM
    simp only [List.append_nil]
  rw [e0]
  exact h
/-- the reading of o.m, taken as a value -/
def tBound (C : Addr) (m : Str) (g : Addr) (ta : TE) : TE := fun σ H Q => ta σ H fun x H1 => ∃ a dx fs, x = .ref a ∧ H1 a = some (.ins C dx fs) ∧ fs.lookup m = none ∧ ∀ p, H1 p = none → Q (.ref p) (upd H1 p (.met g a))
theorem pe_bound {g : Addr} (k : BMeth X.K C m g) (c : Cls X.K C) (he : PE X o ta) (hb : attributeBase o m X.env (eval o X.env) = eval o X.env := by rfl) : PE X (.Attribute o m pos) (tBound C m g ta) := by
  refine ⟨fun pins s σ H Q I h => ?_⟩
  refine attr_of hb (thn (he.run pins s σ H _ I h) fun u s1 ⟨x, H1, I1, rx, a, dx, fs, ex, ea, l, q⟩ => ?_)
  subst ex
  exact op_getbound I1 ea c k l rx q
end
end Sky
set_option Elab.async false
set_option linter.all false
set_option maxRecDepth 100000
set_option maxHeartbeats 4000000
/-! Sky J: dict comprehensions, locked dicts. -/
namespace Sky
open PySem PySem.Spec PyProof.Rows L2 LamX NdefX
theorem off_updD {D : Addr} {H : Hp} {o : HO} : off [D] (upd H D o) = off [D] H := off_upd
section
variable {K : PySem.W.Frag} {J : It} {n : Nat} {G : Hp → Prop} {Y : Nat → Hp → V → Hp → Prop} {g : TG} {tt : TT} {tk tv : TE} {vs : List Nat} {σ : L2.St} {H1 : Hp} {D : Addr} {Qd : Hp → Prop}
/-- R: what holds behind i turns of the dict so far and of the heap without the dict -/
theorem dc_acc (W : Walk J n G Y) (T : List NTab) (l : List Addr) (hD : H1 D = none) (hDl : D ∉ l) (hn : n ≤ sizeLine) (R : Nat → List (Key × V) → Hp → Prop) (h0 : R 0 [] (off [D] H1))
    (hG : ∀ H', Kp T (D :: l) H1 H' → G H')
    (hs : ∀ (i : Nat) (x : V) (acc : List (Key × V)) (H' H'' : Hp) (Q : V → V → Hp → Prop) (Qn : Hp → Prop), i < n → acc.length ≤ i → Kp T (D :: l) H1 H' → H' D = some (.dK acc) → R i acc (off [D] H') → Y i H' x H'' →
      (∀ k z H3, Kp T l H' H3 → R (i + 1) (putK acc k z) (off [D] H3) → Q (kV k) z H3) → (∀ H3, Kp T l H' H3 → R (i + 1) acc (off [D] H3) → Qn H3) →
      g x (wipe σ vs) H'' fun σ2 H2 => wipe σ2 vs = wipe σ vs ∧ tt σ2 H2 fun b H3 => if b = true then tk σ2 H3 fun y H4 => tv σ2 H4 fun z H5 => Q y z H5 else Qn H3)
    (hd : ∀ H' acc, Kp T (D :: l) H1 H' → R n acc (off [D] H') → H' D = some (.dK acc) → acc.length ≤ n → Qd H') :
    ∃ W : Nat → Nat → Hp → Prop, (∃ m, W 0 m (upd H1 D (.dK []))) ∧ ∀ i m H, W i m H →
      (J.stop i H ∧ Qd H) ∨ (J.go i H ∧ ∃ Nx : Hp → Prop, (∀ H', Nx H' → ∃ m', m' < m ∧ W (i + 1) m' H') ∧ ∀ x H', J.yld i H x H' → g x (wipe σ vs) H' fun σ2 H2 => wipe σ2 vs = wipe σ vs ∧ tt σ2 H2 fun b H3 =>
        if b = true then tk σ2 H3 fun y H4 => tv σ2 H4 fun z H5 => ∃ kvs k, y = kV k ∧ H5 D = some (.dK kvs) ∧ kvs.length < sizeLine ∧ Nx (upd H5 D (.dK (putK kvs k z))) else Nx H3) := by
  let Pv : Nat → Hp → Prop := fun i H' => Kp T (D :: l) H1 H' ∧ ∃ acc, H' D = some (.dK acc) ∧ acc.length ≤ i ∧ R i acc (off [D] H')
  have p0 : Pv 0 (upd H1 D (.dK [])) := ⟨(Kp.new hD).trans Kp.refl, [], upd_same, Nat.le_refl _, by rw [off_upd]; exact h0⟩
  refine ⟨fun i m H => m = n - i ∧ i ≤ n ∧ Pv i H, ⟨n, by simp, Nat.zero_le _, p0⟩, ?_⟩
  rintro i m H ⟨rfl, hi, p⟩
  have q := hG H p.1
  by_cases hlt : i < n
  · refine .inr ⟨W.goes i H hlt q, Pv (i + 1), fun H' p' => ⟨n - (i + 1), by omega, rfl, hlt, p'⟩, fun x H' y => ?_⟩
    have y := W.yields i H x H' hlt q y
    obtain ⟨k1, acc, h1, h2, h3⟩ := p
    refine hs i x acc H H' (fun y z H5 => ∃ kvs k, y = kV k ∧ H5 D = some (.dK kvs) ∧ kvs.length < sizeLine ∧ Pv (i + 1) (upd H5 D (.dK (putK kvs k z)))) (Pv (i + 1)) hlt h2 k1 h1 h3 y (fun k z H3 k3 r3 => ?_) fun H3 k3 r3 => ?_
    · have hD3 : H3 D = some (.dK acc) := k3.dK hDl h1
      have k3' : Kp T (D :: l) H H3 := k3.mono fun x hx => List.mem_cons_of_mem _ hx
      refine ⟨acc, k, rfl, hD3, by omega, k1.trans (k3'.trans (Kp.updD (by simp) hD3)), _, upd_same, ?_, by rw [off_upd]; exact r3⟩
      have := length_putK acc k z
      omega
    · have k3' : Kp T (D :: l) H H3 := k3.mono fun x hx => List.mem_cons_of_mem _ hx
      exact ⟨k1.trans k3', acc, k3.dK hDl h1, by omega, r3⟩
  · have e : i = n := by omega
    subst e
    obtain ⟨k1, acc, h1, h2, h3⟩ := p
    exact .inl ⟨W.stops H q, hd H acc k1 h3 h1 h2⟩
end
/-- where it is locked, what is kept but for it is kept -/
theorem kp_unlock {T : List NTab} {l : List Addr} {H H' : Hp} {d : Addr} {u : HO} {od : Obj} (k : Kp T l (upd H d (.frz od u)) H') (hd : H d = some u) (hu : ∀ ps, u ≠ .tbl ps) (hl : d ∉ l) (hne : ∀ φ, u ≠ .ext φ) : Kp T l H (upd H' d u) := by
  have e1 : H' d = some (.frz od u) := k.k d _ hl upd_same fun _ z => by cases z
  refine ⟨fun b o n e z => ?_, fun t q hq => ?_, fun b e => ?_⟩
  · by_cases hb : b = d
    · subst hb
      rw [hd] at e
      cases e
      exact upd_same
    · rw [upd_ne hb]
      exact k.k b o n (by rw [upd_ne hb]; exact e) z
  · have tl : TabsN T (upd H d (.frz od u)) := fun q hq => by
      obtain ⟨ps, h1, h2, h3⟩ := t q hq
      refine ⟨ps, ?_, h2, fun pos cv hc => ?_⟩
      · rw [upd_ne (fun z => by rw [z, hd] at h1; cases h1; exact hu _ rfl)]
        exact h1
      · obtain ⟨c, e1, e2⟩ := h3 pos cv hc
        refine ⟨c, e1, ?_⟩
        rw [upd_ne (fun z => by rw [z, hd] at e2; cases e2; exact hne _ rfl)]
        exact e2
    obtain ⟨ps, h1, h2, h3⟩ := k.t tl q hq
    refine ⟨ps, ?_, h2, fun pos cv hc => ?_⟩
    · rw [upd_ne (fun z => by rw [z, e1] at h1; cases h1)]
      exact h1
    · obtain ⟨c, e2, e3⟩ := h3 pos cv hc
      refine ⟨c, e2, ?_⟩
      rw [upd_ne (fun z => by rw [z, e1] at e3; unfold CodeO at e3; cases e3)]
      exact e3
  · have hb : b ≠ d := fun z => by rw [z, upd_same] at e; cases e
    rw [upd_ne hb] at e
    have q := k.n b e
    rw [upd_ne hb] at q
    exact q
theorem kp_unlockD {T : List NTab} {l : List Addr} {H H' : Hp} {d : Addr} {kvs : List (Key × V)} {od : Obj} (k : Kp T l (upd H d (.frz od (.dK kvs))) H') (hd : H d = some (.dK kvs)) (hl : d ∉ l) : Kp T l H (upd H' d (.dK kvs)) :=
  kp_unlock k hd (fun _ z => by cases z) hl fun _ z => by cases z
/-- putting the keys one behind another, all of them unlike -/
theorem putK_snoc {kvs : List (Key × V)} {i : Nat} {k : Key} {v : V} (nd : (kvs.map (·.1)).Nodup) (e : kvs[i]? = some (k, v)) : putK (kvs.take i) k v = kvs.take (i + 1) := by
  have hn : valV (kvs.take i) k = none := by
    cases z : valV (kvs.take i) k with
    | none => rfl
    | some y =>
      have hm := valV_in z
      obtain ⟨p, hp, ep⟩ := List.mem_map.mp hm
      obtain ⟨j, hj⟩ := List.mem_iff_getElem?.mp hp
      have hji : j < i := by
        have := (List.getElem?_eq_some_iff.mp hj).1
        rw [List.length_take] at this
        omega
      rw [List.getElem?_take_of_lt hji] at hj
      have a1 : (kvs.map (·.1))[j]? = some k := by rw [List.getElem?_map, hj]; exact congrArg some ep
      have a2 : (kvs.map (·.1))[i]? = some k := by rw [List.getElem?_map, e]; rfl
      have := (List.getElem?_inj (List.getElem?_eq_some_iff.mp a1).1 nd).mp (a1.trans a2.symm)
      omega
  rw [putK_new v hn, List.take_add_one, e]
  rfl
end Sky
set_option Elab.async false
set_option linter.all false
set_option maxRecDepth 100000
set_option maxHeartbeats 4000000
namespace Sky
open PySem PySem.Spec PyProof.Rows L2 LamX NdefX
/-! ### spaces as data -/
structure SpD where
  rooms : List (Str × Int)
  homes : List Str
  lanes : List (Str × Str × Int)
def rmK (rooms : List (Str × Int)) : List (Key × V) := rooms.map fun p => (Sum.inr p.1, V.int p.2)
def lnD (p : Str × Str × Int) : PyData := .tuple [.str p.1, .str p.2.1, .int p.2.2]
def outD (S : SpD) (c : Str) : List PyData := (S.lanes.filter fun p => decide (p.1 = c)).map fun p => .tuple [.str p.2.1, .int p.2.2]
theorem valV_rmK (rooms : List (Str × Int)) (n : Str) : (valV (rmK rooms) (Sum.inr n)).isSome = decide (n ∈ rooms.map (·.1)) := by
  induction rooms with
  | nil => rfl
  | cons p r ih =>
    show (valV ((Sum.inr p.1, V.int p.2) :: rmK r) (Sum.inr n)).isSome = _
    by_cases h : p.1 = n
    · rw [valV_pos (by rw [h])]
      simp [h]
    · rw [valV_neg (fun z => h (by cases z; rfl)), ih]
      simp [Ne.symm h]
structure ClsS (K : PySem.W.Frag) (mg : Str → Option Value) (C : Addr) : Prop where
  cl : Cls K C
  nR : NoAttr K C "own_rooms"
  nH : NoAttr K C "own_homes"
  nL : NoAttr K C "own_lanes"
  nO : NoAttr K C "own_out"
  mgC : mg "Space" = some (.ref C)
/-- an instance whose field f holds v -/
def Fld (C : Addr) (H : Hp) (x : Addr) (f : Str) (v : V) : Prop := ∃ dx fs, H x = some (.ins C dx fs) ∧ fs.lookup f = some v
theorem Fld.ke {C : Addr} {H H' : Hp} {x : Addr} {f : Str} {v : V} (h : Fld C H x f v) (k : Ke H H') : Fld C H' x f v := by
  obtain ⟨dx, fs, h1, h2⟩ := h
  exact ⟨dx, fs, k _ _ h1 (fun _ z => by cases z), h2⟩
/-- its class's methods are none of its fields -/
def NoM (C : Addr) (H : Hp) (x : Addr) (m : Str) : Prop := ∃ dx fs, H x = some (.ins C dx fs) ∧ fs.lookup m = none
def SpR (C : Addr) (H : Hp) (x : Addr) (rooms : List (Str × Int)) : Prop := ∃ r, Fld C H x "own_rooms" (.ref r) ∧ H r = some (.dK (rmK rooms))
def SpH (C : Addr) (H : Hp) (x : Addr) (homes : List Str) : Prop := ∃ r, Fld C H x "own_homes" (.ref r) ∧ H r = some (.lst (homes.map V.str))
def SpL (K : PySem.W.Frag) (C : Addr) (H : Hp) (x : Addr) (lanes : List (Str × Str × Int)) : Prop := ∃ r ls, Fld C H x "own_lanes" (.ref r) ∧ H r = some (.lst ls) ∧ RpA K H ls (lanes.map lnD)
def SpO (K : PySem.W.Frag) (C : Addr) (H : Hp) (x : Addr) (S : SpD) : Prop := ∃ r os, Fld C H x "own_out" (.ref r) ∧ H r = some (.dK os) ∧ RpD K H os (S.rooms.map fun p => (.str p.1, .list (outD S p.1)))
structure SpAt (K : PySem.W.Frag) (C : Addr) (H : Hp) (x : Addr) (S : SpD) : Prop where
  r : SpR C H x S.rooms
  h : SpH C H x S.homes
  l : SpL K C H x S.lanes
  o : SpO K C H x S
  m : ∀ y : Str, y ≠ "own_rooms" → y ≠ "own_homes" → y ≠ "own_lanes" → y ≠ "own_out" → NoM C H x y
section
variable {K : PySem.W.Frag} {C : Addr} {H H' : Hp} {x : Addr}
theorem NoM.ke {m : Str} (h : NoM C H x m) (k : Ke H H') : NoM C H' x m := by
  obtain ⟨dx, fs, h1, h2⟩ := h
  exact ⟨dx, fs, k _ _ h1 (fun _ z => by cases z), h2⟩
theorem SpR.ke {rooms : List (Str × Int)} (h : SpR C H x rooms) (k : Ke H H') : SpR C H' x rooms := by
  obtain ⟨r, h1, h2⟩ := h
  exact ⟨r, h1.ke k, k _ _ h2 (fun _ z => by cases z)⟩
theorem SpH.ke {homes : List Str} (h : SpH C H x homes) (k : Ke H H') : SpH C H' x homes := by
  obtain ⟨r, h1, h2⟩ := h
  exact ⟨r, h1.ke k, k _ _ h2 (fun _ z => by cases z)⟩
theorem SpL.ke {lanes : List (Str × Str × Int)} (h : SpL K C H x lanes) (k : Ke H H') : SpL K C H' x lanes := by
  obtain ⟨r, ls, h1, h2, h3⟩ := h
  exact ⟨r, ls, h1.ke k, k _ _ h2 (fun _ z => by cases z), h3.ke k⟩
theorem SpO.ke {S : SpD} (h : SpO K C H x S) (k : Ke H H') : SpO K C H' x S := by
  obtain ⟨r, ls, h1, h2, h3⟩ := h
  exact ⟨r, ls, h1.ke k, k _ _ h2 (fun _ z => by cases z), h3.ke k⟩
theorem SpAt.ke {S : SpD} (h : SpAt K C H x S) (k : Ke H H') : SpAt K C H' x S := ⟨h.r.ke k, h.h.ke k, h.l.ke k, h.o.ke k, fun y a b c d => (h.m y a b c d).ke k⟩
end
def corD (rooms : List (Str × Int)) : PyData → Bool
  | .str z => decide (z ∈ rooms.map (·.1))
  | _ => false
def laneD (rooms : List (Str × Int)) (homes : List Str) (d : PyData) : Bool := match seqD d with
  | some [.str a, .str b, .int c] => decide (a ∈ rooms.map (·.1)) && (!decide (b = a) && ((decide (b ∈ rooms.map (·.1)) || decide (b ∈ homes)) && decide (0 < c)))
  | _ => false
section
variable {P : Program} {w : World} {K : PySem.W.Frag} {mg : Str → Option Value} {base : Heap} {T : List NTab} {C : Addr}
abbrev s_is_corridor : Stmt := top 16
abbrev n_is_corridor : List Str := ["space", "thing"]
theorem sc_is_corridor : FnScope n_is_corridor ["space", "thing"] (defScope s_is_corridor) := ⟨rfl, rfl, rfl, by decide +kernel, rfl, by decide +kernel, by decide +kernel⟩
def sp_is_corridor (K : PySem.W.Frag) (C : Addr) : Sp := fun vs H Q _ => ∃ x v d rooms, vs = [.ref x, v] ∧ SpR C H x rooms ∧ Rp K H v d ∧ Q (.bl (corD rooms d)) H
theorem d_is_corridor (B : Blt mg) (cs : ClsS K mg C) (F : TopFn K mg "is_corridor" s_is_corridor) : DefOk P w K mg base 1 "is_corridor" (sp_is_corridor K C) := by
  refine F.ok sc_is_corridor (fun _ _ _ _ _ _ us hl => match us, hl with | [_, _], _ => rfl) (fun vs H Q E h => ?_) (fun f cdv A outer s H vs Q E hr h => ?_)
  · obtain ⟨x, v, d, rooms, rfl, _⟩ := h
    rfl
  · obtain ⟨x, v, d, rooms, rfl, ⟨r, ⟨dx, fs, h1, h2⟩, h3⟩, rp, k⟩ := h
    refine ⟨_, (pss_one (ps_ret (pe_and (e_isi B (pa_cons (pv 1) (pa_cons (e_ty "str" B.str) pa_nil))) (pe_one (pe_cmp (pc_din (hu_of hr) (pv 1) (pe_fld (pv 0) rfl))))))), ?_⟩
    refine ⟨_, rfl, _, .str, _, rfl, rp.tg, _, rfl, ?_⟩
    cases rp with
    | str z =>
      refine iteT ⟨_, rfl, _, rfl, x, C, dx, fs, _, rfl, h1, cs.cl, cs.nR, h2, r, _, rfl, DGet.k (k := Sum.inr z) h3, ?_⟩
      rw [valV_rmK]
      exact k
    | _ => exact iteF k
abbrev s_is_lane : Stmt := inClass (top 15) 1
abbrev n_is_lane : List Str := ["self", "thing"]
theorem sc_is_lane : FnScope n_is_lane ["self", "thing"] (defScope s_is_lane) := ⟨rfl, rfl, rfl, by decide +kernel, rfl, by decide +kernel, by decide +kernel⟩
def sp_is_lane (K : PySem.W.Frag) (T : List NTab) (C : Addr) : Sp := fun vs H Q _ => ∃ x v d rooms homes, vs = [.ref x, v] ∧ SpR C H x rooms ∧ SpH C H x homes ∧ Rp K H v d ∧ ∀ H', Kp T [] H H' → Q (.bl (laneD rooms homes d)) H'
theorem all_flat : ∀ zs : List Str, (zs.map V.str).all flatV = true
  | [] => rfl
  | z :: r => by
    rw [List.map_cons, List.all_cons, all_flat r]
    rfl
theorem eqV_str (a b : Str) : eqV (.str a) (.str b) = decide (a = b) := by
  first | rfl | (unfold eqV; rw [Bool.eq_iff_iff]; simp)
theorem inV_strs (z : Str) : ∀ zs : List Str, inV (.str z) (zs.map V.str) = decide (z ∈ zs)
  | [] => rfl
  | y :: r => by
    have ih := inV_strs z r
    unfold inV at ih ⊢
    rw [List.map_cons, List.any_cons, ih, eqV_str]
    rw [Bool.eq_iff_iff]
    simp
    constructor
    · rintro (h | h)
      · exact .inl h.symm
      · exact .inr h
    · rintro (h | h)
      · exact .inl h.symm
      · exact .inr h
theorem d_is_lane (B : Blt mg) (cs : ClsS K mg C) (G1 : DefOk P w K mg base 2 "is_row" (sp_is_row K T)) (G2 : DefOk P w K mg base 1 "is_corridor" (sp_is_corridor K C)) (G3 : DefOk P w K mg base 1 "is_whole" (sp_is_whole K))
    (F : MetFn K C "is_lane" "Space.is_lane" s_is_lane) : MetOk P w K mg base 3 C "is_lane" (sp_is_lane K T C) := by
  refine F.ok sc_is_lane (fun _ _ _ _ _ _ us hl => match us, hl with | [_, _], _ => rfl) (fun vs H Q E h => ?_) (fun f cdv A outer s H vs Q E hr h => ?_)
  · obtain ⟨x, v, d, rooms, homes, rfl, _⟩ := h
    rfl
  · obtain ⟨x, v, d, rooms, homes, rfl, hR, hH, rp, k⟩ := h
    refine ⟨_, (pss_cons (ps_if (pw_or (pt_not (pt_val (pe_d G1 hr (pa_cons (pv 1) (pa_cons pe_int pa_nil))))) (pw_or (pt_not (pt_val (pe_d G2 hr (pa_cons (pv 0) (pa_cons (pe_ix ix_seq (pv 1) pe_int (fun _ _ => rfl)) pa_nil))))) (pw_or1 (pt_not (pt_val (e_isi B (pa_cons (pe_ix ix_seq (pv 1) pe_int (fun _ _ => rfl)) (pa_cons (e_ty "str" B.str) pa_nil)))))))).pt (pss_one (ps_ret pe_bl)) pss_nil)
      (pss_cons (ps_if (pw_or (pt_cmpR op_eq (pe_ix ix_seq (pv 1) pe_int (fun _ _ => rfl)) (pe_ix ix_seq (pv 1) pe_int (fun _ _ => rfl)) (nomark _)) (pw_or1 (pw_and (pt_cmp (pc_dnotin (hu_of hr) (pe_ix ix_seq (pv 1) pe_int (fun _ _ => rfl)) (pe_fld (pv 0) rfl))) (pw_and1 (pt_cmpR op_notIn_seq (pe_ix ix_seq (pv 1) pe_int (fun _ _ => rfl)) (pe_fld (pv 0) rfl) (by with_unfolding_all rfl)))).pt)).pt (pss_one (ps_ret pe_bl)) pss_nil)
      (pss_one (ps_ret (pe_and (pe_d G3 hr (pa_cons (pe_ix ix_seq (pv 1) pe_int (fun _ _ => rfl)) pa_nil)) (pe_one (pe_cmpR op_gt (pe_ix ix_seq (pv 1) pe_int (fun _ _ => rfl)) pe_int (nomark _)))))))), ?_⟩
    refine ⟨_, rfl, v, d, 3, rfl, rp, fun H1 K1 => ⟨_, rfl, ?_⟩⟩
    have hR1 := hR.ke K1.ke0
    have hH1 := hH.ke K1.ke0
    have rp1 := rp.ke K1.ke0
    have k1 := k H1 K1
    clear k hR hH rp K1
    revert hR1 hH1 rp1 k1
    generalize H1 = H2
    intro hR hH rp k
    cases e : seqD d with
    | none =>
      have e1 : rowD d 3 = false := by unfold rowD; rw [e]
      have e2 : laneD rooms homes d = false := by unfold laneD; rw [e]
      rw [e1]
      rw [e2] at k
      exact iteT (iteT k)
    | some ds =>
      have e1 : rowD d 3 = decide (ds.length = 3) := by unfold rowD; rw [e]; show decide ((ds.length : Int) = 3) = _; congr 1; apply propext; omega
      rw [e1]
      by_cases h3 : ds.length = 3
      · match ds, h3 with
        | [d1, d2, d3], _ =>
          obtain ⟨a, xs, t, rfl, -, hq, hA⟩ := rp.seq e
          cases hA with
          | cons r1 hA =>
          cases hA with
          | cons r2 hA =>
          cases hA with
          | cons r3 hA =>
          cases hA
          rename_i v1 v2 v3
          refine iteF ⟨_, rfl, _, rfl, rIx_of (i := 0) hq rfl ⟨_, _, d1, rooms, rfl, hR, r1, _, rfl, ?_⟩⟩
          by_cases hc : corD rooms d1 = true
          · rw [hc]
            obtain ⟨z1, rfl, m1⟩ : ∃ z, d1 = .str z ∧ z ∈ rooms.map (·.1) := by
              cases d1 with
              | str z => exact ⟨z, rfl, of_decide_eq_true hc⟩
              | _ => cases hc
            refine iteF ⟨_, rfl, rIx_of (i := 1) hq rfl ⟨_, .str, _, rfl, r2.tg, _, rfl, ?_⟩⟩
            cases r2 with
            | str z2 =>
              refine iteF ⟨_, rfl, rIx_of (i := 1) hq rfl ⟨_, rfl, rIx_of (i := 0) hq rfl ?_⟩⟩
              cases r1
              have e2 : laneD rooms homes d = (!decide (z2 = z1) && ((decide (z2 ∈ rooms.map (·.1)) || decide (z2 ∈ homes)) && posD d3)) := by
                unfold laneD
                rw [e]
                have em : decide (z1 ∈ rooms.map (·.1)) = true := decide_eq_true m1
                cases d3 <;> simp [posD, m1]
              rw [e2] at k
              refine ⟨rfl, _, rfl, ?_⟩
              by_cases hz : z2 = z1
              · rw [decide_eq_true hz] at k
                rw [decide_eq_true (by rw [hz])]
                exact iteT (iteT k)
              · rw [decide_eq_false hz] at k
                rw [decide_eq_false (fun q => hz (by cases q; rfl))]
                obtain ⟨r, ⟨dx, fs, f1, f2⟩, f3⟩ := id hR
                refine iteF ⟨_, rfl, rIx_of (i := 1) hq rfl ⟨_, rfl, x, C, dx, fs, _, rfl, f1, cs.cl, cs.nR, f2, r, _, rfl, DGet.k (k := Sum.inr z2) f3, _, rfl, ?_⟩⟩
                rw [valV_rmK]
                have last : (decide (z2 ∈ rooms.map (·.1)) || decide (z2 ∈ homes)) = true → (tAndV (tD (sp_is_whole K) (tCons (tOp (rIx K) (tVar 1) (tC (.int 2))) tNil)) (tOp (rI0 fun i j => .bl (decide (j < i))) (tOp (rIx K) (tVar 1) (tC (.int 2))) (tC (.int 0)))) [some (.ref x), some (.ref a)] H2 Q := fun em => by
                  rw [em] at k
                  refine ⟨_, rfl, rIx_of (i := 2) hq rfl ⟨_, _, rfl, r3.tg, _, rfl, ite2 (fun h4 => ?_) fun h4 => ?_⟩⟩
                  · refine ⟨_, rfl, rIx_of (i := 2) hq rfl ?_⟩
                    cases r3 with
                    | int i => exact ⟨_, _, rfl, rfl, k⟩
                    | _ => simp [tgD] at h4
                  · have e3 : posD d3 = false := by
                      cases d3 <;> first | rfl | (simp [tgD] at h4)
                    rw [e3] at k
                    exact k
                cases hm1 : decide (z2 ∈ rooms.map (·.1)) with
                | true => exact iteF (iteF (last (by rw [hm1]; rfl)))
                | false =>
                  obtain ⟨rh, ⟨dx', fs', g1, g2⟩, g3⟩ := id hH
                  refine iteT ⟨_, rfl, rIx_of (i := 1) hq rfl ⟨_, rfl, x, C, dx', fs', _, rfl, g1, cs.cl, cs.nH, g2, rh, _, rfl, .inl (SqL.of g3), rfl, all_flat homes, _, rfl, ?_⟩⟩
                  rw [inV_strs]
                  cases hm2 : decide (z2 ∈ homes) with
                  | true => exact iteF (last (by rw [hm1, hm2]; rfl))
                  | false =>
                    rw [hm1, hm2] at k
                    exact iteT k
            | _ =>
              have e2 : laneD rooms homes d = false := by unfold laneD; rw [e]
              rw [e2] at k
              exact iteT k
          · have e2 : laneD rooms homes d = false := by
              unfold laneD
              rw [e]
              cases d1 with
              | str z =>
                have em : decide (z ∈ rooms.map (·.1)) = false := by
                  cases q : decide (z ∈ rooms.map (·.1)) with
                  | false => rfl
                  | true => exact (hc q).elim
                cases d2 <;> cases d3 <;> first | rfl | (show (decide (z ∈ rooms.map (·.1)) && _) = false; rw [em]; rfl)
              | _ => cases d2 <;> cases d3 <;> rfl
            rw [e2] at k
            have e3 : corD rooms d1 = false := by
              cases q : corD rooms d1 with
              | false => rfl
              | true => exact (hc q).elim
            rw [e3]
            exact iteT (iteT k)
      · rw [decide_eq_false h3]
        have e2 : laneD rooms homes d = false := by
          unfold laneD
          rw [e]
          split
          · rename_i h
            cases h
            simp at h3
          · rfl
        rw [e2] at k
        exact iteT (iteT k)
end
end Sky
set_option Elab.async false
set_option linter.all false
set_option maxRecDepth 100000
set_option maxHeartbeats 4000000
namespace Sky
open PySem PySem.Spec PyProof.Rows L2 LamX NdefX
theorem rmK_keys (rooms : List (Str × Int)) : (rmK rooms).map (·.1) = rooms.map fun p => (Sum.inr p.1 : Key) := by
  unfold rmK
  rw [List.map_map]
  rfl
theorem nodup_inj {α β : Type} {f : α → β} (hf : ∀ a b, f a = f b → a = b) : ∀ {l : List α}, l.Nodup → (l.map f).Nodup
  | [], _ => List.nodup_nil
  | a :: l, h => by
    rw [List.map_cons, List.nodup_cons]
    rw [List.nodup_cons] at h
    refine ⟨fun z => ?_, nodup_inj hf h.2⟩
    obtain ⟨b, hb, e⟩ := List.mem_map.mp z
    exact h.1 (hf _ _ e ▸ hb)
theorem rmK_nodup {rooms : List (Str × Int)} (h : (rooms.map (·.1)).Nodup) : ((rmK rooms).map (·.1)).Nodup := by
  rw [rmK_keys]
  have q := nodup_inj (f := fun z : Str => (Sum.inr z : Key)) (fun a b e => by cases e; rfl) h
  rw [List.map_map] at q
  exact q
section
variable {P : Program} {w : World} {K : PySem.W.Frag} {mg : Str → Option Value} {base : Heap} {T : List NTab} {C : Addr}
abbrev s_rooms : Stmt := inClass (top 15) 2
abbrev n_rooms : List Str := ["self", "corridor", "room"]
theorem sc_rooms : FnScope n_rooms ["self"] (defScope s_rooms) := ⟨rfl, rfl, rfl, by decide +kernel, rfl, by decide +kernel, by decide +kernel⟩
def sp_rooms (T : List NTab) (C : Addr) : Sp := fun vs H Q _ => ∃ x rooms, vs = [.ref x] ∧ SpR C H x rooms ∧ (rooms.map (·.1)).Nodup ∧ rooms.length ≤ 1000000 ∧ ∀ p H', H p = none → Kp T [] H H' → H' p = some (.dK (rmK rooms)) → Q (.ref p) H'
theorem d_rooms (cs : ClsS K mg C) (F : MetFn K C "rooms" "Space.rooms" s_rooms) : MetOk P w K mg base 1 C "rooms" (sp_rooms T C) := by
  refine F.ok sc_rooms (fun _ _ _ _ _ _ us hl => match us, hl with | [_], _ => rfl) (fun vs H Q E h => ?_) (fun f cdv A outer s H vs Q E hr h => ?_)
  · obtain ⟨x, rooms, rfl, _⟩ := h
    rfl
  · obtain ⟨x, rooms, rfl, ⟨r, ⟨dx, fs, h1, h2⟩, h3⟩, nd, hz, k⟩ := h
    refine ⟨_, (pss_one (ps_ret (pe_lock (pe_dc (own := [("corridor", 1), ("room", 2)]) (g := gTup K 2 (gCons (gName 1) (gCons (gName 2) gNil))) (tt := tYes) (by rfl) sc_rooms.nd (pi_items (pe_fld (pv 0) rfl)) (blkOk_by (N := n_rooms) (sc := defScope s_rooms) (by decide +kernel))
      (fun _ _ _ _ _ => (pg_tup rfl (pgs_cons (pg_name (i := 1) sc_rooms.nd rfl (Or.inl rfl)) (pgs_cons (pg_name (i := 2) sc_rooms.nd rfl (Or.inl rfl)) pgs_nil)))) (fun _ _ _ _ _ => pts_nil) (fun _ _ _ _ _ => (pv 1)) (fun _ _ _ _ _ => (pv 2)))))), ?_⟩
    have nxr : x ≠ r := ne_of h1 h3 fun z => by cases z
    refine ⟨r, _, h3, trivial, fun od => ?_⟩
    have e1 : upd H r (.frz od (.dK (rmK rooms))) x = some (.ins C dx fs) := by rw [upd_ne nxr]; exact h1
    refine ⟨_, rfl, x, C, dx, fs, _, rfl, e1, cs.cl, cs.nR, h2, r, od, _, rfl, upd_same, fun D hD => ?_⟩
    have nD : D ≠ r := fun z => by rw [z, upd_same] at hD; cases hD
    have hD0 : H D = none := by rw [upd_ne nD] at hD; exact hD
    refine dc_acc (T := T) walk_items [] hD (by simp) (by unfold rmK; rw [List.length_map]; exact Nat.le_trans hz (by decide)) (fun i acc _ => acc = (rmK rooms).take i) (by simp) (fun H' k' => k'.k r _ (by simp [nD.symm]) upd_same fun _ z => by cases z) (fun i y acc H' H'' Q' Qn hi hl k' hDa R yy hk _ => ?_) (fun H' acc k' R hDa hl => ?_)
    · obtain ⟨T0, a, b, rfl, n0, rfl, ea, eb⟩ := yy
      obtain ⟨p, ep, rfl⟩ := Option.map_eq_some_iff.mp ea
      have eb : Option.map Prod.snd (rmK rooms)[i]? = some b := eb
      rw [ep] at eb
      cases eb
      refine ⟨T0, _, rfl, SqT.of upd_same, rfl, _, _, rfl, _, _, rfl, rfl, rfl, ?_⟩
      refine ⟨_, rfl, _, rfl, hk p.1 p.2 _ (Kp.new n0) ?_⟩
      rw [R]
      exact putK_snoc (rmK_nodup nd) ep
    · rw [List.take_length] at R
      subst R
      have K2 : Kp T [] H (upd H' r (.dK (rmK rooms))) := (kp_unlockD (k'.drop hD) h3 (by simp))
      refine ⟨k'.k r _ (by simp [nD.symm]) upd_same (fun _ z => by cases z), k D _ hD0 K2 ?_⟩
      rw [upd_ne nD]
      exact hDa
abbrev s_homes : Stmt := inClass (top 15) 3
abbrev n_homes : List Str := ["self"]
theorem sc_homes : FnScope n_homes ["self"] (defScope s_homes) := ⟨rfl, rfl, rfl, by decide +kernel, rfl, by decide +kernel, by decide +kernel⟩
def sp_homes (T : List NTab) (C : Addr) : Sp := fun vs H Q _ => ∃ x homes, vs = [.ref x] ∧ SpH C H x homes ∧ ∀ p H', H p = none → Kp T [] H H' → H' p = some (.lst (homes.map V.str)) → Q (.ref p) H'
theorem d_homes (B : Blt mg) (cs : ClsS K mg C) (F : MetFn K C "homes" "Space.homes" s_homes) : MetOk P w K mg base 1 C "homes" (sp_homes T C) := by
  refine F.ok sc_homes (fun _ _ _ _ _ _ us hl => match us, hl with | [_], _ => rfl) (fun vs H Q E h => ?_) (fun f cdv A outer s H vs Q E hr h => ?_)
  · obtain ⟨x, rooms, rfl, _⟩ := h
    rfl
  · obtain ⟨x, homes, rfl, ⟨r, ⟨dx, fs, h1, h2⟩, h3⟩, k⟩ := h
    refine ⟨_, (pss_one (ps_ret (e_list B (pa_cons (pe_fld (pv 0) rfl) pa_nil)))), ?_⟩
    exact ⟨_, rfl, x, C, dx, fs, _, rfl, h1, cs.cl, cs.nH, h2, r, _, rfl, .inl (SqL.of h3), fun p hp => k p _ hp (Kp.new hp) upd_same⟩
abbrev s_lanes : Stmt := inClass (top 15) 4
abbrev n_lanes : List Str := ["self"]
theorem sc_lanes : FnScope n_lanes ["self"] (defScope s_lanes) := ⟨rfl, rfl, rfl, by decide +kernel, rfl, by decide +kernel, by decide +kernel⟩
def sp_lanes (K : PySem.W.Frag) (T : List NTab) (C : Addr) : Sp := fun vs H Q _ => ∃ (l : List Addr) (x : Addr) (lanes : List (Str × Str × Int)), vs = [.ref x] ∧ SpL K C (off l H) x lanes ∧ ∀ p ls H', H p = none → Kp T [] H H' → H' p = some (.lst ls) → RpA K (off l H') ls (lanes.map lnD) → Q (.ref p) H'
theorem d_lanes (B : Blt mg) (cs : ClsS K mg C) (F : MetFn K C "lanes" "Space.lanes" s_lanes) : MetOk P w K mg base 1 C "lanes" (sp_lanes K T C) := by
  refine F.ok sc_lanes (fun _ _ _ _ _ _ us hl => match us, hl with | [_], _ => rfl) (fun vs H Q E h => ?_) (fun f cdv A outer s H vs Q E hr h => ?_)
  · obtain ⟨l, x, lanes, rfl, _⟩ := h
    rfl
  · obtain ⟨l, x, lanes, rfl, ⟨r, ls, ⟨dx, fs, h1, h2⟩, h3, h4⟩, k⟩ := h
    refine ⟨_, (pss_one (ps_ret (e_list B (pa_cons (pe_fld (pv 0) rfl) pa_nil)))), ?_⟩
    exact ⟨_, rfl, x, C, dx, fs, _, rfl, (of_off h1).2, cs.cl, cs.nL, h2, r, _, rfl, .inl (SqL.of (of_off h3).2), fun p hp => k p ls _ hp (Kp.new hp) upd_same (h4.ke (Kp.new (T := T) (l := l) hp).ke)⟩
end
end Sky
set_option Elab.async false
set_option linter.all false
set_option maxRecDepth 100000
set_option maxHeartbeats 4000000
/-! Sky K: sorted(..) of data. -/
namespace Sky
open PySem PySem.Spec PyProof.Rows L2 LamX NdefX PySem.W
section
variable {prog : Program} {w : World} {A : Around} {E : Value → Shared → Prop} {s : Shared} {β : Type} {bs : List β} {enc : β → PyData} {R : Value → β → Prop}
theorem sorted_any {x : Value} {Q : Value → Shared → Prop} (C : List Value → Prop) (hc : ∀ (E' : Value → Shared → Prop) (R' : List Value → Shared → Prop), (∀ (h' : Heap) (tk : Nat) (vs : List Value), (∀ b o, s.heap.get? b = some o → h'.get? b = some o) → C vs → R' vs { s with heap := h', toks := tk }) → wpAny (model prog w) A.in1 (collect x) R' E' s)
    (hC : ∀ vs, C vs → EachIs R vs bs ∧ EachIs (fun v b => ∃ as, Reads s.heap v (enc b) as) vs bs) (hal : AllAlike (bs.map enc)) (hk : PySem.W.Sortable (bs.map enc)) (hL : bs.length ≤ sizeLine)
    (hu : ∀ b, b ∈ bs → A.units + 2 + (enc b).depth < cLine)
    (h : ∀ (h1 h' : Heap) (tk : Nat) (c : Nat) (out : List Value), (∀ b o, s.heap.get? b = some o → h1.get? b = some o) → (∀ b o, h1.get? b = some o → h'.get? b = some o) → h'.get? h1.objs.size = some (seqObj "list" out.toArray c) → EachIs R out (bs.mergeSort (dataLe false enc)) → Q (.ref h1.objs.size) { s with heap := h', toks := tk }) :
    wpAny (model prog w) A (call (.builtin "sorted") [x]) Q E s := by
  refine Calls.call_function_entry kind_sorted plain_sorted entry_sorted (args_sorted1 _) ?_
  unfold Builtin.«sorted»
  refine wpAny_bind (m := checkCount "sorted" 1 1 _) (wpAny_pure ?_)
  refine wpAny_bind (hc _ _ fun h1 tk vs hk1 hv => ?_)
  obtain ⟨e, er⟩ := hC vs hv
  have hlen : vs.length ≤ sizeLine := by rw [e.length]; exact hL
  refine wpAny_bind (wpAny_newList ?_ hlen)
  have ho : (h1.push (seqObj "list" vs.toArray 0)).get? h1.objs.size = some (seqObj "list" vs.toArray 0) := Heap.get?_push_size _ rfl
  show wpAny _ _ _ _ _ { s with heap := h1.push (seqObj "list" vs.toArray 0), toks := tk }
  have hsz : ∀ b o, s.heap.get? b = some o → b < h1.objs.size := fun b o q => Heap.lt_size (hk1 b o q)
  have old : ∀ b o, s.heap.get? b = some o → (sortingHeap (h1.push (seqObj "list" vs.toArray 0)) h1.objs.size vs).get? b = some o := fun b o q => sortingHeap_old (Nat.ne_of_lt (hsz b o q)) (Heap.get?_push_of_some _ (hk1 b o q))
  have er' : EachIs (fun v b => ∃ as, Reads (sortingHeap (h1.push (seqObj "list" vs.toArray 0)) h1.objs.size vs) v (enc b) as) vs bs := er.mono fun _ _ ⟨as, r⟩ => ⟨as, PyProof.Rows.Reads.keeps old r⟩
  refine wpAny_bind (wpAny_holding (wpAny_call_entry slot_list_sort ⟨_, ho, rfl⟩ entry_list_sort (list_sort_vals (s := { s with heap := h1.push (seqObj "list" vs.toArray 0), toks := tk }) (κ := dataKind (sortingHeap (h1.push (seqObj "list" vs.toArray 0)) h1.objs.size vs) (bs.map enc)) ho
    (SortsAt.data (s := { s with heap := sortingHeap (h1.push (seqObj "list" vs.toArray 0)) h1.objs.size vs, toks := tk }) (each_map (R := fun v d => ∃ as, Reads (sortingHeap (h1.push (seqObj "list" vs.toArray 0)) h1.objs.size vs) v d as) enc er') hal hk (bound_map hu)) hlen ⟨.none, rfl, ?_⟩) (args_list_sort _)))
  obtain ⟨c, hc'⟩ := sortedHeap_at (vs := vs) (out := (sortVals (dataKind (sortingHeap (h1.push (seqObj "list" vs.toArray 0)) h1.objs.size vs) (bs.map enc)) false vs vs).toArray) ho
  refine wpAny_pure ⟨_, rfl, h h1 _ tk c _ hk1 (fun b o q => ?_) hc' (sortVals_data false e er' hal)⟩
  have hb : b < h1.objs.size := Heap.lt_size q
  rw [sortedHeap_old (Nat.ne_of_lt hb) (by rw [size_push']; exact Nat.lt_succ_of_lt hb)]
  exact Heap.get?_push_of_some _ q
end
/-- data sorted -/
def srtD (ds : List PyData) : List PyData := ds.mergeSort (dataLe false id)
/-- values sorted by what they stand for -/
def srtV (xs : List V) (ds : List PyData) : List V := ((xs.zip ds).mergeSort (dataLe false Prod.snd)).map Prod.fst
theorem each_rpA {K : PySem.W.Frag} {H : Hp} : ∀ {xs : List V} {ds : List PyData}, EachIs (fun p d => Rp K H p.1 p.2 ∧ p.2 = d) (xs.zip ds) ds → xs.length = ds.length → RpA K H xs ds
  | [], [], _, _ => .nil
  | x :: xs, d :: ds, h, hl => by
    rw [List.zip_cons_cons] at h
    cases h with
    | cons h1 h2 => exact .cons h1.1 (each_rpA h2 (by simpa using hl))
  | [], _ :: _, _, hl => by simp at hl
  | _ :: _, [], _, hl => by simp at hl
theorem rpA_each {K : PySem.W.Frag} {H : Hp} : ∀ {xs : List V} {ds : List PyData}, RpA K H xs ds → EachIs (fun (p : V × PyData) d => Rp K H p.1 p.2 ∧ p.2 = d) (xs.zip ds) ds
  | _, _, .nil => .nil
  | _, _, .cons h t => .cons ⟨h, rfl⟩ (rpA_each t)
theorem each_out {K : PySem.W.Frag} {H : Hp} : ∀ {ps : List (V × PyData)} {ds : List PyData}, EachIs (fun p d => Rp K H p.1 p.2 ∧ p.2 = d) ps ds → RpA K H (ps.map Prod.fst) ds
  | _, _, .nil => .nil
  | _, _, .cons h t => by
    obtain ⟨h1, rfl⟩ := h
    exact .cons h1 (each_out t)
theorem rpA_srt {K : PySem.W.Frag} {H : Hp} {xs : List V} {ds : List PyData} (h : RpA K H xs ds) : RpA K H (srtV xs ds) (srtD ds) := by
  refine each_out (sort_each (rpA_each h) fun p hp q hq => ?_)
  have e1 := ((rpA_each h).zip p hp).2
  have e2 := ((rpA_each h).zip q hq).2
  unfold dataLe sortLe
  simp only [id, e1, e2]
theorem srtV_length {xs : List V} {ds : List PyData} (h : xs.length = ds.length) : (srtV xs ds).length = ds.length := by
  unfold srtV
  rw [List.length_map, (List.mergeSort_perm ..).length_eq, List.length_zip]
  omega
theorem each_vals : ∀ {us : List Value} {ps : List (V × PyData)}, EachIs (fun u (p : V × PyData) => RelV p.1 u) us ps → Vals (ps.map Prod.fst) us
  | _, _, .nil => .nil
  | _, _, .cons h t => .cons h (each_vals t)
section
variable {X : Cx} {pins : List (Addr × Obj)} {σ : L2.St} {H : Hp} {s : Shared}
theorem each_of {xs : List V} {ds : List PyData} {us : List Value} (I : Inv X pins σ H s) (h : DpAll X.K H xs ds) (r : Vals xs us) : EachIs (fun u (p : V × PyData) => RelV p.1 u) us (xs.zip ds) ∧ EachIs (fun u (p : V × PyData) => ∃ as, Reads s.heap u p.2 as) us (xs.zip ds) := by
  induction r generalizing ds with
  | nil =>
    cases h
    exact ⟨.nil, .nil⟩
  | cons r t ih =>
    cases h with
    | cons h1 h2 =>
      obtain ⟨q1, q2⟩ := ih h2
      exact ⟨.cons r q1, .cons (Dp.reads I _ _ _ h1 r) q2⟩
/-- sorted(x), x a list or a tuple of data, or a dict -/
def rSortD (K : PySem.W.Frag) : List V → Hp → VK → Prop := fun vs H Q => ∃ (a : Addr) (xs : List V) (ds : List PyData), vs = [.ref a] ∧ ((∃ t, SqB t K H a xs) ∨ ∃ kvs : List (Key × V), H a = some (.dK kvs) ∧ xs = kvs.map fun kv => kV kv.1) ∧ DpAll K H xs ds ∧
  AllAlike ds ∧ PySem.W.Sortable ds ∧ (∀ d ∈ ds, d.depth ≤ 60) ∧ ∀ p, H p = none → Q (.ref p) (L2.upd H p (.lst (srtV xs ds)))
theorem dpAll_len {K : PySem.W.Frag} : ∀ {xs : List V} {ds : List PyData}, DpAll K H xs ds → xs.length = ds.length
  | _, _, .nil => rfl
  | _, _, .cons _ t => congrArg (· + 1) (dpAll_len t)
theorem cr_sortD (hcalm : X.calm = true) (hu : X.A.units + 64 < cLine) : CallR X (.builtin "sorted") (rSortD X.K) := by
  intro pins s σ H vs us Q I r h
  obtain ⟨a, xs, ds, rfl, hq, hd, hal, hk, hdep, q⟩ := h
  obtain ⟨u, rfl, rx⟩ := vals1 r
  cases rx
  have hxd := dpAll_len hd
  have em : (xs.zip ds).map Prod.snd = ds := List.map_snd_zip (by omega)
  have hz : xs.length ≤ sizeLine := by
    rcases hq with ⟨t, hq⟩ | ⟨kvs, hq, rfl⟩
    · cases t with
      | true => exact (inv_szd I).sl _ _ hq
      | false => exact (inv_szd I).st _ _ hq
    · rw [List.length_map]
      exact ((inv_szd I).sd _ _ hq).1
  have coll : ∀ (E' : Value → Shared → Prop) (R' : List Value → Shared → Prop), (∀ (h' : Heap) (tk : Nat) (vs : List Value), (∀ b o, s.heap.get? b = some o → h'.get? b = some o) → Vals xs vs → R' vs { s with heap := h', toks := tk }) → wpAny (model X.prog X.w) X.A.in1 (collect (.ref a)) R' E' s := by
    rcases hq with ⟨t, hq⟩ | ⟨kvs, hq, rfl⟩
    · cases t with
      | true =>
        have hq : SqL X.K H a xs := hq
        obtain ⟨its, rv, p, _⟩ := I.list hq
        have hz' : its.length ≤ sizeLine := by rw [← rv.length]; exact hz
        refine fun E' R' h => ?_
        obtain ⟨o, ho, hc, n, hd⟩ := p.isList
        exact wpAny_collect_seq a (.inl rfl) ho hc hd (fun h' k => by have q := h h' s.toks its k rv; simpa using q) (by simpa using hz')
      | false =>
        have hq : SqT X.K H a xs := hq
        obtain ⟨its, rv, p, _⟩ := I.tuple hq
        have hz' : its.length ≤ sizeLine := by rw [← rv.length]; exact hz
        refine fun E' R' h => ?_
        obtain ⟨o, ho, hc, n, hd⟩ := (show s.heap.IsTuple a its.toArray from p)
        exact wpAny_collect_seq a (.inr rfl) ho hc hd (fun h' k => by have q := h h' s.toks its k rv; simpa using q) (by simpa using hz')
    · refine fun E' R' h => ?_
      obtain ⟨z, lo, vs, rel, dd⟩ := dk_of I.hok hq
      obtain ⟨ep, hat⟩ := dd.dictAt
      have hl : vs.length = kvs.length := rel.length.symm
      refine PySem.W.kdu_collect (A := X.A.in1) (PySem.W.kdl_dict (knd := mixKind X.prog X.w) (kvs := vs) (ep := ep) lo) (I.ok.hd hcalm) hat (by rw [hl]; exact z) fun h' tk acc hk hacc => h h' tk _ hk ?_
      have hal : acc.toList.length = kvs.length := by rw [Array.length_toList, hacc.1, hl]
      refine vals_of_at (by rw [List.length_map, hal]) fun j x u e1 e2 => ?_
      rw [List.getElem?_map] at e1
      obtain ⟨p, e3, rfl⟩ := Option.map_eq_some_iff.mp e1
      obtain ⟨k, x, e4, e5⟩ := hacc.2 j u (by rw [← Array.getElem?_toList]; exact e2)
      have e6 : (kvs.map (·.1))[j]? = some k := by rw [rel.keys, List.getElem?_map, e4]; rfl
      rw [List.getElem?_map, e3] at e6
      have e7 : p.1 = k := Option.some.inj e6
      rw [e7]
      rcases keyIs_shape (show keyIs k u = true from e5) with ⟨i, t, ek, ev⟩ | ⟨z, t, ek, ev⟩
      · subst ek
        exact ⟨t, ev⟩
      · subst ek
        exact ⟨t, ev⟩
  refine sorted_any (enc := Prod.snd) (bs := xs.zip ds) (fun vs => Vals xs vs) coll (fun vs hv => each_of I hd hv) (by rw [em]; exact hal) (by rw [em]; exact hk) (by rw [List.length_zip]; omega) (fun b hb => ?_) fun h1 h' tk c out k1 k2 hp he => ?_
  · have := hdep b.2 (by rw [← em]; exact List.mem_map.mpr ⟨b, hb, rfl⟩)
    omega
  · have I1 : Inv X pins σ H { s with heap := h1, toks := s.toks } := I.kept k1
    have hf : H h1.objs.size = none := I1.hok.fresh (Nat.le_refl _)
    have hv := each_vals he
    refine ⟨.ref h1.objs.size, _, (I1.laid (t' := tk) (a := h1.objs.size) (o := .lst (srtV xs ds)) k2 (Nat.le_refl _) ?_), rfl, q _ hf⟩
    refine ⟨?_, out, c, hv, hp⟩
    rw [srtV_length hxd]
    omega
variable {e : Expr} {es : List Expr} {t : TA} {p pos : Pos}
theorem e_sorted (B : Blt X.mg) (ha : PA X (e :: es) t) (hu : X.A.units + 64 < cLine) (hc : X.calm = true := by rfl) (hg : Gl X "sorted" := by rfl) (hpl : (backTo pos (starEach es X.env)).any (·.1) = false := by rfl) (he : starEach (e :: es) X.env = (false, eval e X.env) :: starEach es X.env := by rfl) :
    PE X (.Call (.Name "sorted" p) (e :: es) [] pos) (tCB (rSortD X.K) t) := pe_callB (cr_sortD hc hu) hg B.sorted (by decide +kernel) ha (by decide) (by decide) he hpl
end
end Sky
set_option Elab.async false
set_option linter.all false
set_option maxRecDepth 100000
set_option maxHeartbeats 4000000
/-! Sky L: own classes made, methods that make lambdas, [tuple(x) for x in ..]. -/
namespace Sky
open PySem PySem.Spec PyProof.Rows L2 LamX NdefX
theorem Cb.imp {P : Program} {w : World} {K : PySem.W.Frag} {mg : Str → Option Value} {base : Heap} {k : Nat} {fs : List Addr} {s : Shared} {H : Hp} {v : V} {sp sp' : Sp} (c : Cb P w K mg base k fs s H v sp) (h : ∀ vs H Q, sp' vs H Q E0 → sp vs H Q E0) : Cb P w K mg base k fs s H v sp' := by
  obtain ⟨q, e, f⟩ := c.ex
  refine ⟨q, e, fun A outer s' H' pos e es env Q E l hr e0 h1 h2 h3 => f A outer s' H' pos e es env Q E l hr e0 h1 h2 (wpAny_mono h3 (fun us s1 ⟨vs, H1, Q1, l1, e1, r1, q1, k1⟩ => ⟨vs, H1, Q1, l1, e1, r1, h _ _ _ q1, k1⟩) fun _ _ z => z)⟩
/-- a def whose code object is the one at c -/
structure FunC (K : PySem.W.Frag) (x qual : Str) (st : Stmt) (f : Addr) (fd : FuncData) (c : Addr) : Prop where
  ex : ∃ (oc : Value) (od : Option Addr) (kV doc pm : Value) (an : Option Addr) (ct : Value) (osl : Array (Option Value)),
    fd = PySem.W.fnOf x qual (defArgs st) (defBody st) (defScope st) .none kV doc pm an (.ref c) ct ∧ K.lookup f = some ⟨oc, od, .func fd, osl⟩ ∧ PySem.W.codeIn K (.ref c) qual = true
  kp : PySem.W.keepIn K (.ref f) = true
section
variable {P : Program} {w : World} {K : PySem.W.Frag} {mg : Str → Option Value} {base : Heap}
theorem FunC.ok {x qual : Str} {st : Stmt} {f c : Addr} {fd : FuncData} {N ps : List Str} {k : Nat} {sp : Sp} (F : FunC K x qual st f fd c) (S : FnScope N ps (defScope st)) (len : ∀ vs H Q E, sp vs H Q E → vs.length = ps.length)
    (hbody : ∀ (A : Around) (outer : List Env) (s : Shared) (H : Hp) (vs : List V) (Q : VK) (E : XK), Room k (A.deeper (envOfC qual (defScope st) s.heap.objs.size f (.ref c))) → sp vs H Q E →
      ∃ t, PSs (cxOf CX0 P w K mg base N qual (defScope st) f (.ref c) A outer s H E).nox (defBody st) t ∧ t { nx := fun _ H' => Q .non H', rt := Q } (start N vs) H) : FnOk P w K mg base CX0 (k + 1) f fd ps sp := by
  obtain ⟨oc, od, kV, doc, pm, an, ct, osl, rfl, lk, hcd⟩ := F.ex
  refine fn_of lk hcd S len fun A outer s H vs Q E hr hsp => ?_
  obtain ⟨t, h, q⟩ := hbody A outer s H vs Q E hr hsp
  exact ⟨t, h.nox, q⟩
theorem FunC.binds {x qual : Str} {st : Stmt} {f c : Addr} {fd : FuncData} {ps : List Str} (F : FunC K x qual st f fd c)
    (h : ∀ (kV doc pm : Value) (an : Option Addr) (cdv ct : Value) (us : List Value), us.length = ps.length → bindArgs (PySem.W.fnOf x qual (defArgs st) (defBody st) (defScope st) .none kV doc pm an cdv ct) ⟨us, []⟩ = pure (ps.zip us)) : Binds K fd ps [] := by
  obtain ⟨oc, od, kV, doc, pm, an, ct, osl, rfl, lk, hcd⟩ := F.ex
  exact .all (h kV doc pm an _ ct)
/-- the class x at C is made by its __init__, as st says -/
structure InitFn (K : PySem.W.Frag) (mg : Str → Option Value) (x : Str) (C : Addr) (q : Str) (st : Stmt) (c : Addr) : Prop where
  ex : ∃ (f : Addr) (fd : FuncData), FunC K "__init__" q st f fd c ∧ Mk K C f ∧ mg x = some (.ref C)
structure MkOk (P : Program) (w : World) (K : PySem.W.Frag) (mg : Str → Option Value) (base : Heap) (k : Nat) (x : Str) (C : Addr) (sp : Sp) : Prop where
  ex : ∃ (f : Addr) (fd : FuncData) (ps : List Str), FnOk P w K mg base CX0 k f fd ps sp ∧ Mk K C f ∧ mg x = some (.ref C) ∧ Binds K fd ps []
theorem MkOk.mono {x : Str} {C : Addr} {k j : Nat} {sp : Sp} (D : MkOk P w K mg base k x C sp) (h : k ≤ j) : MkOk P w K mg base j x C sp := by
  obtain ⟨f, fd, ps, F, r⟩ := D.ex
  exact ⟨f, fd, ps, F.mono h, r⟩
variable {X : Cx} {e : Expr} {es : List Expr} {t : TA} {p pos : Pos} {x : Str} {C : Addr} {k j : Nat} {sp : Sp}
/-- the reading of C(..) -/
def tMk (C : Addr) (sp : Sp) (t : TA) : TE := fun σ H Q => t σ H fun vs H1 => ∀ x dx, H1 x = none → H1 dx = none → dx ≠ x → sp (.ref x :: vs) (L2.upd (L2.upd H1 dx (.own x)) x (.ins C dx [])) (fun v H2 => v = .non ∧ Q (.ref x) H2) E0
theorem pe_mk (D : MkOk X.prog X.w X.K X.mg X.base k x C sp) (hr : Room j X.A) (ha : PA X (e :: es) t) (hk : k + 1 ≤ j := by decide) (hg : Gl X x := by rfl)
    (hdb : (x == ("__debug__" : Str)) = false := by decide) (he : starEach (e :: es) X.env = (false, eval e X.env) :: starEach es X.env := by rfl) (hpl : (backTo pos (starEach es X.env)).any (·.1) = false := by rfl) :
    PE X (.Call (.Name x p) (e :: es) [] pos) (tMk C sp t) := by
  obtain ⟨f, fd, ps, F, M, hm, b⟩ := D.ex
  have q := pe_make (dvs := []) (ds := []) (E := E0) (p := p) (pos := pos) M F (hr.mono hk) hg hm b .nil pass0 ha hdb he hpl
  refine ⟨fun pins s σ H Q I h => q.run pins s σ H Q I ?_⟩
  have e0 : tMake C sp [] E0 t σ H Q = tMk C sp t σ H Q := by
    unfold tMake tMk
    simp only [List.append_nil]
  rw [e0]
  exact h
end
/-! ### the lambdas of a text -/
def lamP : Expr → Arguments
  | .Lambda p _ _ _ => p
  | _ => { posonlyargs := [], args := [], vararg := none, kwonlyargs := [], kw_defaults := [], kwarg := none, defaults := [] }
def lamB : Expr → Expr
  | .Lambda _ b _ _ => b
  | e => e
def lamS : Expr → Scope
  | .Lambda _ _ s _ => s
  | _ => { kind := .function, names := [], isGenerator := false, isCoroutine := false }
/-- the i-th argument of the call that a statement is, assigns or returns -/
def argOf (s : Stmt) (i : Nat) : Expr := match s with
  | .Assign _ (.Call _ args _ _) _ => args.getD i (.Name "" ⟨0, 0, 0, 0⟩)
  | .Expr (.Call _ args _ _) _ => args.getD i (.Name "" ⟨0, 0, 0, 0⟩)
  | .Return (some (.Call _ args _ _)) _ => args.getD i (.Name "" ⟨0, 0, 0, 0⟩)
  | _ => .Name "" ⟨0, 0, 0, 0⟩
/-! ### [tuple(x) for x in ..] -/
/-- a list or a tuple of data -/
def RpS (K : PySem.W.Frag) (H : Hp) (x : V) (ss : List PyData) : Prop := ∃ d, Rp K H x d ∧ (d = .list ss ∨ d = .tuple ss)
theorem RpS.ke {K : PySem.W.Frag} {H H' : Hp} {x : V} {ss : List PyData} (h : RpS K H x ss) (k : Ke H H') : RpS K H' x ss := by
  obtain ⟨d, h1, h2⟩ := h
  exact ⟨d, h1.ke k, h2⟩
theorem RpS.sq {K : PySem.W.Frag} {H : Hp} {x : V} {ss : List PyData} (h : RpS K H x ss) : ∃ a xs t, x = .ref a ∧ SqB t K H a xs ∧ RpA K H xs ss := by
  obtain ⟨d, h1, rfl | rfl⟩ := h
  · cases h1 with
    | lst h1 h2 => exact ⟨_, _, true, rfl, SqL.of h1, h2⟩
  · cases h1 with
    | tup h1 h2 => exact ⟨_, _, false, rfl, h1, h2⟩
theorem paired_get {α β : Type} {R : α → β → Prop} : ∀ {xs : List α} {ys : List β} {i : Nat} {x : α}, Paired R xs ys → xs[i]? = some x → ∃ y, ys[i]? = some y ∧ R x y
  | _, _, _, _, .nil, e => by simp at e
  | _, _, 0, _, .cons h _, e => by simp at e; subst e; exact ⟨_, rfl, h⟩
  | _, _, i + 1, x, .cons _ t, e => by
    obtain ⟨y, h1, h2⟩ := paired_get (i := i) (x := x) t (by simpa using e)
    exact ⟨y, by simpa using h1, h2⟩
theorem lc_tup {K : PySem.W.Frag} {tl : TE} {i : Nat} {σ : L2.St} {H : Hp} {Q : VK} {a : Addr} {xs : List V} {t : Bool} {sss : List (List PyData)} (T : List NTab) (l : List Addr) (hl : ∀ b ∈ l, H b ≠ none)
    (htl : ∀ R : VK, R (.ref a) H → tl σ H R) (hq : SqB t K (off l H) a xs) (hp : Paired (RpS K (off l H)) xs sss) (k : ∀ D zs H', H D = none → Kp T [] H H' → H' D = some (.lst zs) → RpA K (off l H') zs (sss.map .tuple) → Q (.ref D) H')
    (hw : ∀ v, wipe ((wipe σ [i]).set i (some v)) [i] = wipe σ [i] := by intro _; rfl) (hs : ∀ v, ((wipe σ [i]).set i (some v))[i]? = some (some v) := by intro _; rfl) :
    tLc (iSeq K tl) (gName i) tYes (tCB (rTupOf K) (tCons (tVar i) tNil)) [i] σ H Q := by
  refine htl _ ⟨a, xs, t, rfl, hq.ke Ke.off, fun J G hz W hG D hD => ?_⟩
  have nDl : D ∉ l := fun z => hl D z hD
  have ke1 : ∀ H', Kp T (D :: []) H H' → Ke (off l H) (off l (off [D] H')) := fun H' k' => Ke.offN (k'.mono (by simp)) hD
  have hlen : xs.length = sss.length := Paired.length hp
  refine lc_acc W T [] hD (by simp) hz (fun j acc H' => RpA K (off l H') acc ((sss.take j).map .tuple)) .nil (fun H' k' => hG H' ((hq.ke (ke1 H' k')).ke (Ke.off.trans Ke.off))) (fun j y acc H' H'' Q' Qn hj hn k' hDa R' y' hk _ => ?_) fun H' acc k' R' hDa _ => ?_
  · obtain ⟨rfl, ey⟩ := y'
    obtain ⟨ss, es, hss⟩ := paired_get hp ey
    obtain ⟨b, zs, u, rfl, hb, hA⟩ := hss.sq
    refine ⟨hw _, ?_⟩
    have take : (sss.take (j + 1)).map PyData.tuple = (sss.take j).map .tuple ++ [.tuple ss] := by
      rw [List.take_add_one, es, List.map_append]
      rfl
    have kb := ke1 _ k'
    refine ⟨_, hs _, b, zs, rfl, ?_⟩
    cases u with
    | true =>
      refine .inl ⟨Ke.off.lq (Ke.off.lq (kb.lq hb)), fun q hq' => ?_⟩
      have nq : q ∉ l := fun z => hl q z (k'.n q hq')
      have nD : q ≠ D := fun z => by rw [z, hDa] at hq'; cases hq'
      refine hk _ _ (Kp.new hq') ?_
      rw [take]
      have kk : Ke (off l (off [D] H'')) (off l (off [D] (upd H'' q (.tup zs)))) := by
        rw [off_off, off_off]
        exact (Kp.new (T := T) (l := _) hq').ke
      refine (R'.ke kk).snoc (.tup (SqT.of (off_some nq (off_some (by simp [nD]) upd_same))) ?_)
      exact (hA.ke kb).ke kk
    | false =>
      refine .inr ⟨Ke.off.tq (Ke.off.tq (kb.tq hb)), hk _ _ Kp.refl ?_⟩
      rw [take]
      exact R'.snoc (.tup (kb.tq hb) (hA.ke kb))
  · rw [hlen, List.take_length] at R'
    refine k D acc H' hD (k'.drop hD) hDa (R'.ke ?_)
    rw [off_off]
    exact Ke.sub fun x hx => List.mem_append_right _ hx
/-! ### unlike keys -/
theorem okTo_of {α : Type} {f : α → List Key} {l : List α} (h : (l.map f).Nodup) : okTo (fun _ => true) (fun i => (l[i]?.map f).getD []) l.length := fun i hi => by
  refine ⟨rfl, fun z => ?_⟩
  obtain ⟨j, hj, e⟩ := List.mem_map.mp z
  have hj := List.mem_range.mp hj
  have e1 : l[i]? = some l[i] := by simp [hi]
  have e2 : l[j]? = some (l[j]'(by omega)) := by simp [Nat.lt_trans hj hi]
  have e : (Option.map f l[j]?).getD [] = (Option.map f l[i]?).getD [] := e
  rw [e1, e2] at e
  have e3 : (l.map f)[j]? = (l.map f)[i]? := by
    rw [List.getElem?_map, List.getElem?_map, e1, e2]
    exact congrArg some e
  have := (List.getElem?_inj (by rw [List.length_map]; omega) h).mp e3
  omega
/-! ### sorted by what it stands for -/
def srtBy {β : Type} (enc : β → PyData) (l : List β) : List β := l.mergeSort (PySem.W.dataLe false enc)
theorem srtD_map {β : Type} (enc : β → PyData) (l : List β) : srtD (l.map enc) = (srtBy enc l).map enc := by
  unfold srtD srtBy
  exact (PySem.W.sort_maps (r := PySem.W.dataLe false enc) (s := PySem.W.dataLe false id) enc (fun _ _ _ _ => rfl)).symm
theorem srtBy_perm {β : Type} (enc : β → PyData) (l : List β) : (srtBy enc l).Perm l := List.mergeSort_perm ..
end Sky
set_option Elab.async false
set_option linter.all false
set_option maxRecDepth 100000
set_option maxHeartbeats 4000000
namespace Sky
open PySem PySem.Spec PyProof.Rows L2 LamX NdefX
section
variable {P : Program} {w : World} {K : PySem.W.Frag} {mg : Str → Option Value} {base : Heap} {T : List NTab} {C : Addr}
abbrev s_init : Stmt := inClass (top 15) 0
abbrev n_init : List Str := ["self", "rooms", "homes", "lanes", "wrong", "one", "other", "cost", "corridor", "room", "lane", "pair"]
theorem sc_init : FnScope n_init ["self", "rooms", "homes", "lanes"] (defScope s_init) := ⟨rfl, rfl, rfl, by decide +kernel, rfl, by decide +kernel, by decide +kernel⟩
def initSt (i : Nat) : Stmt := (defBody s_init).getD i (.Pass ⟨0, 0, 0, 0⟩)
def lm1 : Expr := argOf (initSt 0) 2
def lm2 : Expr := argOf (initSt 3) 1
def lm3 : Expr := argOf (initSt 6) 2
def LFof (q : Str) (e : Expr) (cl : List (Str × Addr)) (c : Addr) : LF := ⟨q, lamP e, lamB e, lamS e, cl, c⟩
def spIx0 (K : PySem.W.Frag) : Sp := fun vs H Q _ => ∃ a xs t v, vs = [.ref a] ∧ SqB t K H a xs ∧ xs[0]? = some v ∧ Q v H
theorem lam1_ok (q : Str) (cl : List (Str × Addr)) (c f : Addr) : LOk P w K mg base 1 f (LFof q lm1 cl c) ["pair"] [] (fun _ => spIx0 K) := by
  refine lok_of (N := ["pair"]) (show NScope ["pair"] ["pair"] [] (lamS lm1) from nscope_by (by decide +kernel)) (fun pm ctv us hl => match us, hl with | [_], _ => rfl) (fun ws vs H Q E h => ?_) (fun A outer s H vs ws Q E hr hl h => ?_)
  · obtain ⟨_, _, _, _, rfl, _⟩ := h
    rfl
  · obtain ⟨a, xs, t, v, rfl, hq, e, k⟩ := h
    exact ⟨_, pe_ix ix_seq (pv 0) pe_int (fun _ _ => rfl), _, rfl, rIx_of (i := 0) hq e k⟩
def homeD (rooms : List (Str × Int)) (d : PyData) : Bool := nmD d && !corD rooms d
def spHome (K : PySem.W.Frag) (T : List NTab) (C : Addr) : List (Option V) → Sp := fun ws vs H Q _ => ∃ x v d rooms, ws = [some (.ref x)] ∧ vs = [v] ∧ SpR C H x rooms ∧ Rp K H v d ∧ sS d ∧ ∀ H', Kp T [] H H' → Q (.bl (homeD rooms d)) H'
theorem lam2_ok (cs : ClsS K mg C) (G : DefOk P w K mg base 1 "is_name" (sp_is_name K T)) (q : Str) (cl : List (Str × Addr)) (c f : Addr) : LOk P w K mg base 2 f (LFof q lm2 cl c) ["thing"] ["self"] (spHome K T C) := by
  refine lok_of (N := ["thing", "self"]) (show NScope ["thing", "self"] ["thing"] ["self"] (lamS lm2) from nscope_by (by decide +kernel)) (fun pm ctv us hl => match us, hl with | [_], _ => rfl) (fun ws vs H Q E h => ?_) (fun A outer s H vs ws Q E hr hl h => ?_)
  · obtain ⟨_, _, _, _, _, rfl, _⟩ := h
    rfl
  · obtain ⟨x, v, d, rooms, rfl, rfl, hR, rp, hs, k⟩ := h
    refine ⟨_, pe_and (pe_d G hr (pa_cons (pv 0) pa_nil)) (pe_one (pe_cmp (pc_dnotin (hu_of hr) (pv 0) (pe_fld (pv 1) rfl)))), ?_⟩
    refine ⟨_, rfl, v, d, rfl, rp, hs, fun H1 K1 => ⟨_, rfl, ?_⟩⟩
    have k := k H1 K1
    unfold homeD at k
    cases hn : nmD d with
    | false =>
      rw [hn] at k
      exact iteF k
    | true =>
      rw [hn] at k
      obtain ⟨r, ⟨dx, fs, h1, h2⟩, h3⟩ := hR.ke K1.ke0
      have rp1 := rp.ke K1.ke0
      cases rp1 with
      | str z =>
        refine iteT ⟨_, rfl, _, rfl, x, C, dx, fs, _, rfl, h1, cs.cl, cs.nR, h2, r, _, rfl, DGet.k (k := Sum.inr z) h3, ?_⟩
        rw [valV_rmK]
        exact k
      | _ => cases hn
def spPair (K : PySem.W.Frag) : Sp := fun vs H Q _ => ∃ a xs t v u, vs = [.ref a] ∧ SqB t K H a xs ∧ xs[0]? = some v ∧ xs[1]? = some u ∧ ∀ p, H p = none → Q (.ref p) (L2.upd H p (.tup [v, u]))
theorem lam3_ok (q : Str) (cl : List (Str × Addr)) (c f : Addr) : LOk P w K mg base 1 f (LFof q lm3 cl c) ["lane"] [] (fun _ => spPair K) := by
  refine lok_of (N := ["lane"]) (show NScope ["lane"] ["lane"] [] (lamS lm3) from nscope_by (by decide +kernel)) (fun pm ctv us hl => match us, hl with | [_], _ => rfl) (fun ws vs H Q E h => ?_) (fun A outer s H vs ws Q E hr hl h => ?_)
  · obtain ⟨_, _, _, _, _, rfl, _⟩ := h
    rfl
  · obtain ⟨a, xs, t, v, u, rfl, hq, e1, e2, k⟩ := h
    exact ⟨_, pe_tup (pa_cons (pe_ix ix_seq (pv 0) pe_int (fun _ _ => rfl)) (pa_cons (pe_ix ix_seq (pv 0) pe_int (fun _ _ => rfl)) pa_nil)), _, rfl, rIx_of (i := 0) hq e1 ⟨_, rfl, rIx_of (i := 1) hq e2 ⟨by show 2 ≤ sizeLine; decide, k⟩⟩⟩
/-! ### right parts of a space -/
structure OkSp (rooms : List (Str × Int)) (homes : List Str) (lanes : List (Str × Str × Int)) : Prop where
  nm : ∀ p ∈ rooms, nmS p.1 = true ∧ 0 < p.2
  nd : (rooms.map (·.1)).Nodup
  hm : ∀ z ∈ homes, nmS z = true ∧ z ∉ rooms.map (·.1)
  hd : homes.Nodup
  ln : ∀ p ∈ lanes, p.1 ∈ rooms.map (·.1) ∧ (p.2.1 ∈ rooms.map (·.1) ∨ p.2.1 ∈ homes) ∧ p.2.1 ≠ p.1 ∧ 0 < p.2.2
  ld : (lanes.map fun p => (p.1, p.2.1)).Nodup
  rz : rooms.length ≤ 1000000
  hz : homes.length ≤ 1000000
  lz : lanes.length ≤ 1000000
def rmD (p : Str × Int) : PyData := .tuple [.str p.1, .int p.2]
def srtS (rooms : List (Str × Int)) (homes : List Str) (lanes : List (Str × Str × Int)) : SpD := ⟨srtBy rmD rooms, srtBy PyData.str homes, srtBy lnD lanes⟩
def rmA (p : Str × Int) : List PyData := [.str p.1, .int p.2]
def lnA (p : Str × Str × Int) : List PyData := [.str p.1, .str p.2.1, .int p.2.2]
/-- lists and dicts, all of them -/
def LD (m : List Addr) (H : Hp) : Prop := ∀ a ∈ m, (∃ xs, H a = some (.lst xs)) ∨ ∃ kvs, H a = some (.dK kvs)
/-- whatever lists and dicts were there before may change later on -/
def sp_init (K : PySem.W.Frag) (T : List NTab) (C : Addr) : Sp := fun vs H Q _ => ∃ x dx ra rxs rt ha hxs ht la lxs lt rooms homes lanes, vs = [.ref x, .ref ra, .ref ha, .ref la] ∧ H x = some (.ins C dx []) ∧ TabsN T H ∧
  SqB rt K (off [x] H) ra rxs ∧ Paired (RpS K (off [x] H)) rxs (rooms.map rmA) ∧ SqB ht K (off [x] H) ha hxs ∧ hxs = homes.map V.str ∧ SqB lt K (off [x] H) la lxs ∧ Paired (RpS K (off [x] H)) lxs (lanes.map lnA) ∧ OkSp rooms homes lanes ∧
  ∀ H', Kp T [x] H H' → (∀ m, LD m H → SpAt K C (off m H') x (srtS rooms homes lanes)) → Q .non H'
end
end Sky
set_option Elab.async false
set_option linter.all false
set_option maxRecDepth 100000
set_option maxHeartbeats 4000000
/-! Sky M: readings opened one step at a time. -/
namespace Sky
open PySem PySem.Spec PyProof.Rows L2 LamX NdefX
section
variable {K : PySem.W.Frag} {D : Ends} {σ : L2.St} {H : Hp} {Q : VK} {t u : TS} {te ta tv tk : TE} {tl : TA} {g : TG} {wi : TI} {tt : TT} {f : Str} {vs : List Nat} {r : List V → Hp → VK → Prop} {Qs : List V → Hp → Prop} {R : It → Hp → Prop}
theorem rd_next (h : D.nx σ H) : tNext D σ H := h
theorem rd_seq (h : t { D with nx := u D } σ H) : tSeq t u D σ H := h
theorem rd_fld (h : tv σ H fun y H1 => ta σ H1 fun x H2 => ∃ a C dx fs, x = .ref a ∧ H2 a = some (.ins C dx fs) ∧ Cls K C ∧ NoAttr K C f ∧ fs.length < 1000 ∧ D.nx σ (L2.upd H2 a (.ins C dx (putF f y fs)))) : sFld K ta tv f D σ H := h
theorem rd_asg (h : te σ H fun x H1 => g x σ H1 D.nx) : tAsg te g D σ H := h
theorem rd_dc (h : wi σ H fun J H1 => ∀ D, H1 D = none → ∃ W : Nat → Nat → Hp → Prop, (∃ m, W 0 m (L2.upd H1 D (.dK []))) ∧ ∀ i m H, W i m H →
  (J.stop i H ∧ Q (.ref D) H) ∨ (J.go i H ∧ ∃ Nx : Hp → Prop, (∀ H', Nx H' → ∃ m', m' < m ∧ W (i + 1) m' H') ∧ ∀ x H', J.yld i H x H' → g x (wipe σ vs) H' fun σ2 H2 => wipe σ2 vs = wipe σ vs ∧ tt σ2 H2 fun b H3 =>
    if b = true then tk σ2 H3 fun y H4 => tv σ2 H4 fun z H5 => ∃ kvs k, y = kV k ∧ H5 D = some (.dK kvs) ∧ kvs.length < sizeLine ∧ Nx (L2.upd H5 D (.dK (putK kvs k z))) else Nx H3)) : tDc wi g tt tk tv vs σ H Q := h
theorem rd_iseq (h : te σ H fun x H1 => ∃ a xs t, x = .ref a ∧ SqB t K H1 a xs ∧ ∀ (J : It) (G : Hp → Prop), xs.length ≤ sizeLine → Walk J xs.length G (YAt xs) → (∀ H', SqB t K H' a xs → G H') → R J H1) : iSeq K te σ H R := h
theorem rd_cb (h : tl σ H fun vs H1 => r vs H1 Q) : tCB r tl σ H Q := h
theorem rd_cons (h : te σ H fun x H1 => tl σ H1 fun xs H2 => Qs (x :: xs) H2) : tCons te tl σ H Qs := h
theorem rd_nil (h : Qs [] H) : tNil σ H Qs := h
theorem rd_ret (h : te σ H D.rt) : tRet te D σ H := h
end
theorem valV_at {kvs : List (Key × V)} (nd : (kvs.map (·.1)).Nodup) {i : Nat} {k : Key} {v : V} (e : kvs[i]? = some (k, v)) : valV kvs k = some v := by
  induction kvs generalizing i with
  | nil => simp at e
  | cons p r ih =>
    rw [List.map_cons, List.nodup_cons] at nd
    unfold valV
    rw [List.find?_cons]
    cases i with
    | zero =>
      simp at e
      subst e
      simp
    | succ i =>
      have e' : r[i]? = some (k, v) := by simpa using e
      have hm : k ∈ r.map (·.1) := List.mem_map.mpr ⟨(k, v), List.mem_of_getElem? e', rfl⟩
      have hne : ¬ p.1 = k := fun z => nd.1 (z ▸ hm)
      rw [show (decide (p.1 = k)) = false from decide_eq_false hne]
      exact ih nd.2 e'
theorem putF_len (f : Str) (v : V) : ∀ fs : List (Str × V), (putF f v fs).length ≤ fs.length + 1
  | [] => Nat.le_refl _
  | (g, x) :: r => by
    unfold putF
    by_cases h : g = f
    · rw [if_pos h]
      exact Nat.le_succ _
    · rw [if_neg h, List.length_cons, List.length_cons]
      exact Nat.succ_le_succ (putF_len f v r)
/-- names and the lists at As, as a dict -/
def nmLs (ns : List Str) (As : List Addr) : List (Key × V) := (ns.zip As).map fun q => (Sum.inr q.1, V.ref q.2)
theorem nmLs_keys (ns : List Str) (As : List Addr) {k : Key} (h : k ∈ (nmLs ns As).map (·.1)) : ∃ n, k = Sum.inr n ∧ n ∈ ns := by
  obtain ⟨p, hp, rfl⟩ := List.mem_map.mp h
  obtain ⟨q, hq, rfl⟩ := List.mem_map.mp hp
  exact ⟨q.1, rfl, (List.of_mem_zip hq).1⟩
theorem nmLs_put {ns : List Str} {As : List Addr} {i : Nat} {n : Str} {q : Addr} (nd : ns.Nodup) (e : ns[i]? = some n) (hl : As.length = i) : putK (nmLs (ns.take i) As) (Sum.inr n) (.ref q) = nmLs (ns.take (i + 1)) (As ++ [q]) := by
  have hn : valV (nmLs (ns.take i) As) (Sum.inr n) = none := by
    cases z : valV (nmLs (ns.take i) As) (Sum.inr n) with
    | none => rfl
    | some y =>
      obtain ⟨m, em, hm⟩ := nmLs_keys _ _ (valV_in z)
      cases em
      obtain ⟨j, hj⟩ := List.mem_iff_getElem?.mp hm
      have hji : j < i := by
        have := (List.getElem?_eq_some_iff.mp hj).1
        rw [List.length_take] at this
        omega
      rw [List.getElem?_take_of_lt hji] at hj
      have := (List.getElem?_inj (List.getElem?_eq_some_iff.mp hj).1 nd).mp (hj.trans e.symm)
      omega
  have hi := (List.getElem?_eq_some_iff.mp e).1
  rw [putK_new _ hn, List.take_add_one, e]
  unfold nmLs
  rw [show (some n).toList = [n] from rfl, List.zip_append (by rw [List.length_take]; omega), List.map_append]
  rfl
theorem nmLs_nodup {ns : List Str} {As : List Addr} (nd : ns.Nodup) (hl : As.length = ns.length) : ((nmLs ns As).map (·.1)).Nodup := by
  have e : (nmLs ns As).map (·.1) = ns.map fun n => (Sum.inr n : Key) := by
    unfold nmLs
    rw [List.map_map]
    have e2 : ((fun x => x.1) ∘ fun (q : Str × Addr) => ((Sum.inr q.1 : Key), V.ref q.2)) = (fun n => (Sum.inr n : Key)) ∘ Prod.fst := rfl
    rw [e2, ← List.map_map, List.map_fst_zip (by omega)]
  rw [e]
  exact (List.pairwise_map.mpr (nd.imp fun h z => h (by cases z; rfl)))
theorem nmLs_get {ns : List Str} {As : List Addr} {j : Nat} {n : Str} {a : Addr} (e1 : ns[j]? = some n) (e2 : As[j]? = some a) : (nmLs ns As)[j]? = some (Sum.inr n, V.ref a) := by
  unfold nmLs
  rw [List.getElem?_map, List.getElem?_zip_eq_some (z := (n, a)) |>.mpr ⟨e1, e2⟩]
  rfl
theorem rpD_lists {K : PySem.W.Frag} {H : Hp} {f : Str → List PyData} : ∀ {ns : List Str} {As : List Addr}, As.length = ns.length → (∀ (j : Nat) (n : Str) (a : Addr), ns[j]? = some n → As[j]? = some a → Rp K H (.ref a) (.list (f n))) → RpD K H (nmLs ns As) (ns.map fun n => (.str n, .list (f n)))
  | [], [], _, _ => .nil
  | n :: ns, a :: As, hl, h => .cons (h 0 n a rfl rfl) (rpD_lists (by simpa using hl) fun j m b e1 e2 => h (j + 1) m b (by simpa using e1) (by simpa using e2))
  | [], _ :: _, hl, _ => by simp at hl
  | _ :: _, [], hl, _ => by simp at hl
end Sky
set_option Elab.async false
set_option linter.all false
set_option maxRecDepth 100000
set_option maxHeartbeats 4000000
/-! Sky N: == and != of an instance whose class has an __eq__ of its own and no __ne__. -/
namespace Sky
open PySem PySem.Spec PyProof.Rows L2 LamX NdefX PySem.W
section
variable {M : Model} {prog : Program} {w : World} {A : Around} {E : Value → Shared → Prop} {s : Shared} {K : PySem.W.Frag} {x C f : Addr} {ox : Obj} {od : Option Obj} {b tb : Value}
theorem ifBound_ne {args : List Value} {Q : Option Value → Shared → Prop} (X : K.In s.heap) (I : PySem.W.InstAt s.heap x ox C od) (hs : PySem.W.findIn K (.ref C) "__ne__" = some (some (.builtin "object.__ne__")))
    (h : wpAny M A (call (.builtin "object.__ne__") (.ref x :: args)) (fun v => Q (some v)) E s) : wpAny M A (callSpecialIfBound? (.ref x) "__ne__" args) Q E s := by
  simp only [callSpecialIfBound?, bindSpecialIfBound?]
  refine wpAny_holding (wpAny_bind (wpAny_bind (wpAny_bind (I.type.here ((PySem.W.looks_findIn X hs).here ?_)))))
  refine wpAny_bind (wpAny_askSetting (wpAny_ite ?_))
  have fin : wpAny M A (call (.builtin "object.__ne__") ([.ref x] ++ args) >>= fun v => pure (some v)) Q E s := wpAny_bind (wpAny_mono h (fun v s' h' => wpAny_pure h') fun _ _ h' => h')
  split
  · exact wpAny_bind (wpAny_of_eq (F.cmp_object.ne.bind _) (wpAny_pure (by exact fin)))
  · exact wpAny_tryCatch (wpAny_bind (wpAny_of_eq (F.cmp_object.ne.bind _) (wpAny_pure (by exact fin))))
theorem objNe_entry {Q : Fin → Shared → Prop} (hu : A.units < cLine) (X : K.In s.heap) (I : PySem.W.InstAt s.heap x ox C od) (he : PySem.W.findIn K (.ref C) "__eq__" = some (some (.ref f))) (hf : PySem.W.isFn K (.ref f) = true)
    (h : wpAny (model prog w) A (call (.ref f) [.ref x, b]) (fun v s' => ∃ r, v = .bool r ∧ Q (.done (.ret (.bool (!r)))) s') E s) :
    wpAny (model prog w) A (Builtin.«object.__ne__» ⟨[.ref x, b], []⟩) Q E s := by
  unfold Builtin.«object.__ne__»
  repeat (first
    | with_reducible refine wpAny_cRoomFor hu ?_
    | (refine wpAny_bind (m := callSpecialIfBound? (.ref x) (Str.ofString "__eq__") [b])
        (ifBound_K X I he hf (wpAny_mono h (fun r s' hr => by
          obtain ⟨b, rfl, hq⟩ := hr
          repeat (first | exact hq | exact wpAny_pure hq | exact wpAny_truthy_bool hq | (refine wpAny_bind (m := truthy (.bool _)) (wpAny_truthy_bool ?_)) | wp_step)) fun _ _ e => e)))
    | wp_step)
theorem ne_own {Q : Value → Shared → Prop} (hu : A.units + 1 < cLine) (X : K.In s.heap) (I : PySem.W.InstAt s.heap x ox C od) (hb : Looks (model prog w) s.heap (typeOf b) tb) (hn : notFirst K C tb = true)
    (hs : PySem.W.findIn K (.ref C) "__ne__" = some (some (.builtin "object.__ne__"))) (hm : PySem.W.mroIn K C (.type "object") = some true) (he : PySem.W.findIn K (.ref C) "__eq__" = some (some (.ref f))) (hf : PySem.W.isFn K (.ref f) = true)
    (h : wpAny (model prog w) A.in1 (call (.ref f) [.ref x, b]) (fun v s' => ∃ r, v = .bool r ∧ Q (.bool (!r)) s') E s) : wpAny (model prog w) A (richCompare .NotEq (.ref x) b) Q E s := by
  have one : wpAny (model prog w) A (tryCompare (.ref x) "__ne__" b) (fun r s' => ∃ v, r = some v ∧ Q v s') E s := by
    unfold tryCompare
    refine wpAny_bind (ifBound_ne X I hs (wpAny_call (codeAny_call_builtin F.cmp_object.ne.plain F.cmpEntry_ne (PySem.W.check_slot F.cmpKind_ne F.cmpSplit_ne (I.type.andThen (PySem.W.looks_mroIn X hm)) (F.cmpArgs_ne _ _)
      (objNe_entry (A := A.in1) (by show A.units + 1 < cLine; exact hu) X I he hf (wpAny_mono h (fun v s' hv => ?_) fun _ _ e => e))))))
    obtain ⟨r, rfl, hq⟩ := hv
    exact ⟨r, rfl, wpAny_pure ⟨_, rfl, hq⟩⟩
  unfold richCompare
  simp only [oneThing_ref]
  refine wpAny_holding (wpAny_bind (wpAny_cRoomFor (Nat.lt_of_succ_lt hu) ?_))
  refine wpAny_bind (I.type.here (wpAny_bind (hb.here ?_)))
  split
  · rename_i q
    have e : subIn K tb (.ref C) = some false := by
      rcases Bool.or_eq_true_iff.mp hn with e | e
      · rw [beq_iff_eq.mp e] at q; simp at q
      · exact beq_iff_eq.mp e
    refine wpAny_bind ((looks_subIn X e).here ?_)
    simp only [Bool.false_eq_true, if_false]
    refine wpAny_bind (wpAny_mono one (fun r s' z => ?_) fun _ _ e => e)
    obtain ⟨v, rfl, hq⟩ := z
    exact wpAny_pure hq
  · refine wpAny_bind (wpAny_pure ?_)
    simp only [Bool.false_eq_true, if_false]
    refine wpAny_bind (wpAny_mono one (fun r s' z => ?_) fun _ _ e => e)
    obtain ⟨v, rfl, hq⟩ := z
    exact wpAny_pure hq
end
/-- what may stand on the right: data, or an instance of the same class -/
inductive Rgt (K : PySem.W.Frag) (C : Addr) (H : Hp) : V → Prop
  | dat {y : V} {g : Tg} : TgOf K H y g → Rgt K C H y
  | own {b dy : Addr} {gs : List (Str × V)} : H b = some (.ins C dy gs) → Rgt K C H (.ref b)
theorem notFirst_tg {K : PySem.W.Frag} {C : Addr} (g : Tg) : notFirst K C (.type g.name) = true := by
  have e : ((fastBuiltinMro g.name).any fun l => l.all fun v => match v with | .type _ => true | _ => false) = true := by cases g <;> decide +kernel
  obtain ⟨l, e1, e2⟩ : ∃ l, fastBuiltinMro g.name = some l ∧ l.all (fun v => match v with | .type _ => true | _ => false) = true := by
    cases q : fastBuiltinMro g.name with
    | none => rw [q] at e; cases e
    | some l => rw [q] at e; exact ⟨l, rfl, e⟩
  unfold notFirst
  have e3 : subIn K (.type g.name) (.ref C) = some false := by
    show (fastBuiltinMro g.name).map (·.contains (.ref C)) = some false
    rw [e1]
    show some (l.contains (.ref C)) = some false
    congr 1
    cases q : l.contains (Value.ref C) with
    | false => rfl
    | true =>
      have hm : Value.ref C ∈ l := by simpa using q
      have := List.all_eq_true.mp e2 _ hm
      cases this
  rw [e3]
  simp
section
variable {X : Cx} {C : Addr} {k j : Nat} {sp : Sp}
theorem rgt_looks {pins : List (Addr × Obj)} {σ : L2.St} {H : Hp} {s : Shared} {y : V} {u : Value} (I : Inv X pins σ H s) (h : Rgt X.K C H y) (r : RelV y u) : ∃ tb, Looks (model X.prog X.w) s.heap (typeOf u) tb ∧ notFirst X.K C tb = true := by
  cases h with
  | dat tg =>
    obtain ⟨P, Z, p, _⟩ := kit_of I r tg.tyx
    exact ⟨_, Z.ty _ s.heap I.kIn p, notFirst_tg _⟩
  | own hb =>
    cases r
    obtain ⟨mB, J, _⟩ := ins_get I.hok hb
    obtain ⟨od, J, _⟩ := J.look
    exact ⟨_, J.type, by simp [notFirst]⟩
/-- the own method called from within an operator -/
theorem run_met {A : Around} {f : Addr} {fd : FuncData} {ps : List Str} {pins : List (Addr × Obj)} {σ : L2.St} {H : Hp} {s : Shared} {Q : VK} {us : List Value} {vs : List V} (F : FnOk X.prog X.w X.K X.mg X.base CX0 k f fd ps sp) (b : Binds X.K fd ps []) (hr : Room k A) (hA : A.frames = X.A.frames) (I : Inv X pins σ H s) (r : Vals vs us) (h : sp vs H Q E0)
    {E : Value → Shared → Prop} : wpAny (model X.prog X.w) A (call (.ref f) us) (EP X pins σ Q) E s := by
  have hl : us.length = ps.length := by rw [← r.length]; exact F.len _ _ _ _ h
  have bb := b s us I.kIn (by rw [List.append_nil]; exact hl)
  rw [List.append_nil] at bb
  have e0 : Env0 X.prog X.w X.K X.mg X.base A X.stack s H := by
    have e := I.env0
    exact ⟨by rw [hA]; exact e.frames, e.mod, e.bs, e.bsz, e.funs, e.frf, e.hok, e.bare⟩
  refine wpAny_call (codeAny_mono (F.run A X.stack s H ⟨us, []⟩ us vs Q E0 hr e0 bb r h) fun r s' hq => ?_)
  cases r with
  | error e => exact (show False from hq).elim
  | ok fl =>
    cases fl with
    | ret u => exact I.after hq
    | next => exact False.elim hq
    | brk => exact False.elim hq
    | cont => exact False.elim hq
def rOwnEq (K : PySem.W.Frag) (C : Addr) (sp : Sp) : R2 := fun x y H Q => ∃ a dx fs, x = .ref a ∧ H a = some (.ins C dx fs) ∧ Rgt K C H y ∧ sp [x, y] H (fun v H' => ∃ r, v = .bl r ∧ Q (.bl r) H') E0
def rOwnNe (K : PySem.W.Frag) (C : Addr) (sp : Sp) : R2 := fun x y H Q => ∃ a dx fs, x = .ref a ∧ H a = some (.ins C dx fs) ∧ Rgt K C H y ∧ sp [x, y] H (fun v H' => ∃ r, v = .bl r ∧ Q (.bl (!r)) H') E0
theorem op_ownEq (D : MetOk X.prog X.w X.K X.mg X.base k C "__eq__" sp) (hr : Room j X.A) (hk : k ≤ j := by decide) : OpR X (compareOp .Eq) (rOwnEq X.K C sp) := by
  intro pins s σ H x y v u Q I rx ry h
  obtain ⟨a, dx, fs, rfl, ha, hy, q⟩ := h
  cases rx
  obtain ⟨f, fd, ps, F, hm, b⟩ := D.ex
  obtain ⟨tb, hb, hn⟩ := rgt_looks I hy ry
  obtain ⟨mA, J, _⟩ := ins_get I.hok ha
  obtain ⟨od, J, _⟩ := J.look
  obtain ⟨m, hF⟩ := I.fr
  refine PySem.W.cmp_K (op := .Eq) (tb := tb) hr.units0 hF I.ok.mod.kin J hb hn hm.at_ hm.fn ?_
  refine wpAny_mono (run_met F b (hr.mono hk) rfl I (us := [.ref a, u]) (vs := [.ref a, y]) (.cons rfl (.cons ry .nil)) q) (fun w s' z => ?_) fun _ _ e => e
  obtain ⟨z, H', I', rz, r, rfl, q'⟩ := z
  cases rz
  exact ⟨.bl r, H', I', rfl, q'⟩
theorem op_ownNe (D : MetOk X.prog X.w X.K X.mg X.base k C "__eq__" sp) (hne : PySem.W.findIn X.K (.ref C) "__ne__" = some (some (.builtin "object.__ne__"))) (hob : PySem.W.mroIn X.K C (.type "object") = some true) (hr : Room (j + 1) X.A) (hk : k ≤ j := by decide) : OpR X (compareOp .NotEq) (rOwnNe X.K C sp) := by
  intro pins s σ H x y v u Q I rx ry h
  obtain ⟨a, dx, fs, rfl, ha, hy, q⟩ := h
  cases rx
  obtain ⟨f, fd, ps, F, hm, b⟩ := D.ex
  obtain ⟨tb, hb, hn⟩ := rgt_looks I hy ry
  obtain ⟨mA, J, _⟩ := ins_get I.hok ha
  obtain ⟨od, J, _⟩ := J.look
  refine ne_own (by have := hr.units; omega) I.kIn J hb hn hne hob hm.at_ hm.fn ?_
  refine wpAny_mono (run_met F b (hr.in1.mono hk) rfl I (us := [.ref a, u]) (vs := [.ref a, y]) (.cons rfl (.cons ry .nil)) q) (fun w s' z => ?_) fun _ _ e => e
  obtain ⟨z, H', I', rz, r, rfl, q'⟩ := z
  cases rz
  exact ⟨r, rfl, .bl (!r), H', I', rfl, q'⟩
end
end Sky
set_option Elab.async false
set_option linter.all false
set_option maxRecDepth 100000
set_option maxHeartbeats 4000000
/-! Sky O: == and != of dicts from texts to numbers, both answers. -/
namespace Sky
open PySem PySem.Spec PyProof.Rows L2 LamX NdefX PySem.W
def rmKv (rooms : List (Str × Int)) : List (Key × V) := rooms.map fun p => (Sum.inr p.1, V.int p.2)
def rget (ls : List (Str × Int)) (n : Str) : Option Int := (ls.find? fun q => decide (q.1 = n)).map (·.2)
/-- the dicts are equal -/
def dEq (ks ls : List (Str × Int)) : Bool := ks.length == ls.length && ks.all fun p => decide (rget ls p.1 = some p.2)
theorem valV_get (ls : List (Str × Int)) (n : Str) : valV (rmKv ls) (Sum.inr n) = (rget ls n).map V.int := by
  induction ls with
  | nil => rfl
  | cons p r ih =>
    show valV ((Sum.inr p.1, V.int p.2) :: rmKv r) (Sum.inr n) = _
    unfold rget
    rw [List.find?_cons]
    by_cases h : p.1 = n
    · rw [valV_pos (by rw [h]), decide_eq_true h]
      rfl
    · rw [valV_neg (fun z => h (by cases z; rfl)), ih, decide_eq_false h]
      rfl
section
variable {X : Cx} {pins : List (Addr × Obj)} {σ : L2.St} {H : Hp} {s : Shared}
theorem int_at {A : Around} {i j : Int} {v y : Value} (r : RelV (.int i) v) (r' : RelV (.int j) y) : SeqAt.EqAt A s v y (decide (i = j)) := by
  obtain ⟨t, rfl⟩ := r
  obtain ⟨u, rfl⟩ := r'
  have q := SeqAt.EqAt.int_int (A := A) (s := s) i t j u
  have e : (i == j) = decide (i = j) := by rw [Bool.eq_iff_iff]; simp
  first | exact q | (rw [← e]; exact q)
theorem hits_ints {A : Around} {s : Shared} {ls : List (Str × Int)} {vb : List (Key × Value)} (rb : KV (rmKv ls) vb) : ∀ {ks : List (Str × Int)} {va : List (Key × Value)}, KV (rmKv ks) va → KeqHits A s vb va (ks.all fun p => decide (rget ls p.1 = some p.2))
  | [], va, ra => by
    have ra' : KV ([] : List (Key × V)) va := ra
    cases ra'
    exact .nil
  | p :: ks, va, ra => by
    have ra' : KV ((Sum.inr p.1, V.int p.2) :: rmKv ks) va := ra
    cases ra' with
    | cons h t =>
      rename_i q qs
      obtain ⟨k, v⟩ := q
      obtain ⟨h1, h2⟩ := h
      have h1' : (Sum.inr p.1 : Key) = k := h1
      subst h1'
      have q := rb.val (Sum.inr p.1)
      rw [valV_get] at q
      rw [List.all_cons]
      cases e : rget ls p.1 with
      | none =>
        rw [e] at q
        have e2 : valueAt vb (Sum.inr p.1) = none := by
          cases z : valueAt vb (Sum.inr p.1) with
          | none => rfl
          | some y => rw [z] at q; exact q.elim
        have e3 : (decide ((none : Option Int) = some p.2) && ks.all fun p => decide (rget ls p.1 = some p.2)) = false := by simp
        rw [e3]
        exact .miss e2
      | some j =>
        rw [e] at q
        obtain ⟨y, hy, ry⟩ := RelO.some_of q
        have e3 : decide (some j = some p.2) = decide (p.2 = j) := by
          rw [Bool.eq_iff_iff]
          simp
          exact ⟨fun h => h.symm, fun h => h.symm⟩
        rw [e3]
        exact .hit hy (int_at h2 ry) (hits_ints rb t)
def rEqDI (b : Bool) : R2 := fun x y H Q => ∃ a c ks ls, x = .ref a ∧ y = .ref c ∧ H a = some (.dK (rmKv ks)) ∧ H c = some (.dK (rmKv ls)) ∧ Q (.bl (if b then dEq ks ls else !dEq ks ls)) H
theorem op_eqDI (hu : X.A.units < cLine) : OpR X (compareOp .Eq) (rEqDI true) := by
  intro pins s σ H x y v u Q I rx ry h
  obtain ⟨a, b, ks, ls, rfl, rfl, ea, eb, q⟩ := h
  obtain rfl : v = Value.ref a := rx
  obtain rfl : u = Value.ref b := ry
  obtain ⟨_, ya, va, ra, da⟩ := (show ObjOk X.prog X.w H s.heap a (.dK (rmKv ks)) from I.hok a _ ea)
  obtain ⟨_, yb, vb, rb, db⟩ := (show ObjOk X.prog X.w H s.heap b (.dK (rmKv ls)) from I.hok b _ eb)
  refine PySem.W.keq_eq (knd := mixKind X.prog X.w) ya yb da db hu (fun _ => hits_ints rb ra) (fin_bl I q ?_)
  rw [← ra.length, ← rb.length]
  unfold rmKv dEq
  rw [List.length_map, List.length_map]
  rfl
theorem op_neDI (hu : X.A.units < cLine) : OpR X (compareOp .NotEq) (rEqDI false) := by
  intro pins s σ H x y v u Q I rx ry h
  obtain ⟨a, b, ks, ls, rfl, rfl, ea, eb, q⟩ := h
  obtain rfl : v = Value.ref a := rx
  obtain rfl : u = Value.ref b := ry
  obtain ⟨_, ya, va, ra, da⟩ := (show ObjOk X.prog X.w H s.heap a (.dK (rmKv ks)) from I.hok a _ ea)
  obtain ⟨_, yb, vb, rb, db⟩ := (show ObjOk X.prog X.w H s.heap b (.dK (rmKv ls)) from I.hok b _ eb)
  refine PySem.W.keq_ne (knd := mixKind X.prog X.w) ya yb da db hu (fun _ => hits_ints rb ra) (fin_bl I q ?_)
  rw [← ra.length, ← rb.length]
  unfold rmKv dEq
  rw [List.length_map, List.length_map]
  rfl
end
end Sky
set_option Elab.async false
set_option linter.all false
set_option maxRecDepth 100000
set_option maxHeartbeats 4000000
/-! Sky P: isinstance(x, C), C an own class. -/
namespace Sky
open PySem PySem.Spec PyProof.Rows L2 LamX NdefX PySem.W
/-- what isinstance asks of an own class -/
structure IsCls (K : PySem.W.Frag) (C : Addr) : Prop where
  cl : Cls K C
  ha : PySem.W.findIn K (.ref C) "__class__" = some (some (.builtin "object.__class__"))
  hn : PySem.W.specialIn K (.builtin "object.__class__") "__get__" = some (some (.builtin "getset_descriptor.__get__"))
  htk : PySem.W.takesIn K (.builtin "object.__class__") = some true
  hm : PySem.W.mroIn K C (.type "object") = some true
  no : ∀ g : Tg, PySem.W.kitOne K (.type g.name) (.ref C) = some false
/-- an instance of the class at C, or data -/
inductive Kd (K : PySem.W.Frag) (C : Addr) (H : Hp) : V → Bool → Prop
  | dat {y : V} {g : Tg} : TgOf K H y g → Kd K C H y false
  | own {b dy : Addr} {gs : List (Str × V)} : H b = some (.ins C dy gs) → Kd K C H (.ref b) true
theorem Kd.rgt {K : PySem.W.Frag} {C : Addr} {H : Hp} {y : V} {b : Bool} (h : Kd K C H y b) : Rgt K C H y := by
  cases h with
  | dat h => exact .dat h
  | own h => exact .own h
def rIsiO (K : PySem.W.Frag) (C : Addr) : List V → Hp → VK → Prop := fun xs H Q => ∃ y b, xs = [y, .ref C] ∧ Kd K C H y b ∧ Q (.bl b) H
section
variable {X : Cx} {e : Expr} {es : List Expr} {t : TA} {p pos : Pos} {C : Addr}
theorem cr_isiO (c : IsCls X.K C) : CallR X (.builtin "isinstance") (rIsiO X.K C) := by
  intro pins s σ H xs us Q I r h
  obtain ⟨y, b, rfl, k, q⟩ := h
  refine call_isi pins s σ H _ us Q I r ?_
  cases k with
  | dat h => exact ⟨y, .ref C, _, _, _, rfl, .own C, h.tyx, c.no _, q⟩
  | own h => exact ⟨_, .ref C, _, _, true, rfl, .own C, .base (.ins h c.cl c.ha c.hn c.htk c.hm), by unfold PySem.W.kitOne; simp, q⟩
theorem e_isiO (c : IsCls X.K C) (B : Blt X.mg) (ha : PA X (e :: es) t) (hg : Gl X "isinstance" := by rfl) (hpl : (backTo pos (starEach es X.env)).any (·.1) = false := by rfl) (he : starEach (e :: es) X.env = (false, eval e X.env) :: starEach es X.env := by rfl) :
    PE X (.Call (.Name "isinstance" p) (e :: es) [] pos) (tCB (rIsiO X.K C) t) := pe_callB (cr_isiO c) hg B.isinstance (by decide +kernel) ha (by decide) (by decide) he hpl
end
end Sky
set_option Elab.async false
set_option linter.all false
set_option maxRecDepth 100000
set_option maxHeartbeats 4000000
/-! Sky Q: names drawn until one is new (plain Lean). -/
namespace Sky
open PySem
/-- a name behind another one -/
def nxL (a : Nat → Nat) (l : List Nat) (i : Nat) : List Nat := l.take 3 ++ [a (i / 26), a (i % 26)]
def trL (a : Nat → Nat) (l : List Nat) : Nat → List Nat
  | 0 => l
  | i + 1 => nxL a (trL a l i) i
section
variable {a : Nat → Nat} {l : List Nat}
theorem nxL_len (i : Nat) : (nxL a l i).length = min 3 l.length + 2 := by simp [nxL]
theorem trL_len1 (h : 1 ≤ l.length) : ∀ i, 3 ≤ (trL a l (i + 1)).length
  | 0 => by show 3 ≤ (nxL a l 0).length; rw [nxL_len]; omega
  | i + 1 => by
    have := trL_len1 h i
    show 3 ≤ (nxL a (trL a l (i + 1)) (i + 1)).length
    rw [nxL_len]
    omega
theorem trL_pre (h : 1 ≤ l.length) : ∀ i, (trL a l (i + 1)).take 3 = (trL a l 1).take 3
  | 0 => rfl
  | i + 1 => by
    rw [← trL_pre h i]
    show (nxL a (trL a l (i + 1)) (i + 1)).take 3 = _
    have := trL_len1 (a := a) h i
    unfold nxL
    rw [List.take_append_of_le_length (by rw [List.length_take]; omega), List.take_take]
    simp
theorem trL_two (h : 1 ≤ l.length) (k : Nat) : trL a l (k + 2) = (trL a l 1).take 3 ++ [a ((k + 1) / 26), a ((k + 1) % 26)] := by
  show nxL a (trL a l (k + 1)) (k + 1) = _
  unfold nxL
  rw [trL_pre h]
theorem trL_len2 (h : 1 ≤ l.length) (k : Nat) : (trL a l (k + 2)).length = 5 := by
  rw [trL_two h, List.length_append, List.length_take]
  have : 3 ≤ (trL a l 1).length := trL_len1 (a := a) h 0
  simp only [List.length_cons, List.length_nil]
  omega
theorem suf_ne (ha : ∀ i j, i < 26 → j < 26 → a i = a j → i = j) {p : List Nat} {i j : Nat} (hi : i < 676) (hj : j < 676) (hij : i ≠ j) : p ++ [a (i / 26), a (i % 26)] ≠ p ++ [a (j / 26), a (j % 26)] := fun e => by
  have e := List.append_cancel_left e
  injection e with e1 e2
  injection e2 with e2 _
  have h1 := ha _ _ (by omega) (by omega) e1
  have h2 := ha _ _ (by omega) (by omega) e2
  omega
theorem trL_ne (ha : ∀ i j, i < 26 → j < 26 → a i = a j → i = j) (h1 : 1 ≤ l.length) (h3 : l.length ≤ 3) {i j : Nat} (hij : i < j) (hj : j ≤ 676) : trL a l i ≠ trL a l j := by
  match i, j, hij, hj with
  | 0, 1, _, _ =>
    intro e
    have q := congrArg List.length e
    have : (trL a l 1).length = min 3 l.length + 2 := nxL_len 0
    have : (trL a l 0).length = l.length := rfl
    omega
  | 0, k + 2, _, _ =>
    intro e
    have q := congrArg List.length e
    rw [trL_len2 h1] at q
    have : (trL a l 0).length = l.length := rfl
    omega
  | 1, k + 2, _, hj =>
    intro e
    by_cases h : l.length = 3
    · have e1 : trL a l 1 = l ++ [a (0 / 26), a (0 % 26)] := by
        show nxL a l 0 = _
        unfold nxL
        rw [List.take_of_length_le (by omega)]
      rw [trL_two h1, e1] at e
      rw [List.take_append_of_le_length (by omega), List.take_of_length_le (by omega)] at e
      exact suf_ne ha (i := 0) (j := k + 1) (by omega) (by omega) (by omega) e
    · have q := congrArg List.length e
      rw [trL_len2 h1] at q
      have : (trL a l 1).length = min 3 l.length + 2 := nxL_len 0
      omega
  | m + 2, k + 2, hij, hj =>
    rw [trL_two h1, trL_two h1]
    exact suf_ne ha (by omega) (by omega) (by omega)
theorem trL_le (h1 : 1 ≤ l.length) (h3 : l.length ≤ 3) : ∀ i, 1 ≤ (trL a l i).length ∧ (trL a l i).length ≤ 5
  | 0 => ⟨h1, Nat.le_trans h3 (by decide)⟩
  | 1 => by
    have : (trL a l 1).length = min 3 l.length + 2 := nxL_len 0
    omega
  | k + 2 => by rw [trL_len2 h1]; decide
theorem trL_all (P : Nat → Prop) (hP : ∀ k, k < 26 → P (a k)) (hl : ∀ c ∈ l, P c) : ∀ i, i ≤ 676 → ∀ c ∈ trL a l i, P c
  | 0, _ => hl
  | i + 1, h => fun c hc => by
    have hc : c ∈ (trL a l i).take 3 ++ [a (i / 26), a (i % 26)] := hc
    rcases List.mem_append.mp hc with hc | hc
    · exact trL_all P hP hl i (by omega) c (List.mem_of_mem_take hc)
    · rcases List.mem_cons.mp hc with rfl | hc
      · exact hP _ (by omega)
      · rcases List.mem_cons.mp hc with rfl | hc
        · exact hP _ (by omega)
        · cases hc
end
/-- more unlike things than places: one of them is none of those -/
theorem pigeon {α : Type} [DecidableEq α] : ∀ {l m : List α}, l.Nodup → (∀ x ∈ l, x ∈ m) → l.length ≤ m.length
  | [], _, _, _ => Nat.zero_le _
  | x :: l, m, nd, h => by
    rw [List.nodup_cons] at nd
    have hx := h x (List.mem_cons_self ..)
    have q := pigeon (m := m.erase x) nd.2 fun y hy => (List.mem_erase_of_ne (fun e : y = x => nd.1 (by rw [← e]; exact hy))).mpr (h y (List.mem_cons_of_mem _ hy))
    rw [List.length_erase_of_mem hx] at q
    have := List.length_pos_of_mem hx
    rw [List.length_cons]
    omega
theorem range_nodup {α : Type} {f : Nat → α} {n : Nat} (h : ∀ i j, i < j → j < n → f i ≠ f j) : ((List.range n).map f).Nodup := by
  refine List.pairwise_map.mpr ?_
  refine List.Pairwise.imp_of_mem (fun {i j} hi hj hij => ?_) List.pairwise_lt_range
  exact h i j hij (List.mem_range.mp hj)
end Sky
set_option Elab.async false
set_option linter.all false
set_option maxRecDepth 100000
set_option maxHeartbeats 4000000
/-! Sky R: a list of pairs of names that grows while draws are made. -/
namespace Sky
open PySem PySem.Spec PyProof.Rows L2 LamX NdefX
/-- tuples stay -/
def Tk (H H' : Hp) : Prop := ∀ q zs, H q = some (.tup zs) → H' q = some (.tup zs)
theorem Tk.trans {H H1 H2 : Hp} (a : Tk H H1) (b : Tk H1 H2) : Tk H H2 := fun q zs e => b q zs (a q zs e)
theorem Tk.new {H : Hp} {p : Addr} {o : HO} (h : H p = none) : Tk H (upd H p o) := fun q zs e => by
  rw [upd_ne (ne_of_none e h)]
  exact e
theorem Tk.upd {H : Hp} {p : Addr} {o : HO} {xs : List V} (h : H p = some (.lst xs)) : Tk H (L2.upd H p o) := fun q zs e => by
  rw [upd_ne (fun z => by rw [z, h] at e; cases e)]
  exact e
theorem Kp.tk {T : List NTab} {l : List Addr} {H H' : Hp} (k : Kp T l H H') (h : ∀ a ∈ l, ∃ xs, H a = some (.lst xs)) : Tk H H' := fun q zs e => k.tup (fun hq => by
  obtain ⟨xs, hx⟩ := h q hq
  rw [hx] at e
  cases e) e
theorem Kp.tk0 {T : List NTab} {H H' : Hp} (k : Kp T [] H H') : Tk H H' := k.tk fun _ z => by cases z
/-- the values vs are pairs of names -/
def PT (H : Hp) (vs : List V) (ps : List (Str × Str)) : Prop := Paired (fun v (p : Str × Str) => ∃ q, v = .ref q ∧ H q = some (.tup [.str p.1, .str p.2])) vs ps
theorem PT.tk {H H' : Hp} {vs : List V} {ps : List (Str × Str)} (h : PT H vs ps) (k : Tk H H') : PT H' vs ps := by
  unfold PT at h ⊢
  induction h with
  | nil => exact .nil
  | cons h _ ih =>
    obtain ⟨q, e1, e2⟩ := h
    exact .cons ⟨q, e1, k _ _ e2⟩ ih
theorem PT.append {H : Hp} {vs ws : List V} {ps qs : List (Str × Str)} (h : PT H vs ps) (k : PT H ws qs) : PT H (vs ++ ws) (ps ++ qs) := by
  unfold PT at h k ⊢
  induction h with
  | nil => exact k
  | cons h _ ih => exact .cons h ih
structure SpI (T : List NTab) (H : Hp) (st sc HL IN PL : Addr) (hs ins : List Str) (c n : Nat) (H' : Hp) : Prop where
  k : Kp T [st, sc] H H'
  h : H' HL = some (.lst (hs.map V.str))
  i : H' IN = some (.lst (ins.map V.str))
  p : ∃ vs ps, H' PL = some (.lst vs) ∧ PT H' vs ps ∧ ps.length ≤ n ∧ ∀ p ∈ ps, p.1 ∈ ins ∧ (p.2 ∈ ins ∨ p.2 ∈ hs)
  s : StrAt c st sc H'
/-- the lists stand apart from one another and from the stream; the pairs' list is new since H -/
structure Ap (H : Hp) (st sc HL IN PL : Addr) : Prop where
  h1 : HL ≠ st
  h2 : HL ≠ sc
  i1 : IN ≠ st
  i2 : IN ≠ sc
  p1 : PL ≠ st
  p2 : PL ≠ sc
  p3 : PL ≠ HL
  p4 : PL ≠ IN
  pn : H PL = none
section
variable {T : List NTab} {H H' H'' : Hp} {st sc HL IN PL : Addr} {hs ins : List Str} {c c' n : Nat}
theorem SpI.step (I : SpI T H st sc HL IN PL hs ins c n H') (A : Ap H st sc HL IN PL) (k : Kp T [st, sc] H' H'') (S : StrAt c' st sc H'') : SpI T H st sc HL IN PL hs ins c' n H'' := by
  obtain ⟨vs, ps, h1, h2, h3⟩ := I.p
  exact ⟨I.k.trans k, k.lst (by simp [A.h1, A.h2]) I.h, k.lst (by simp [A.i1, A.i2]) I.i, ⟨vs, ps, k.lst (by simp [A.p1, A.p2]) h1, h2.tk (k.tk fun a ha => by
    rcases List.mem_cons.mp ha with rfl | ha
    · exact I.s.some.1
    · cases List.mem_singleton.mp ha
      exact I.s.some.2), h3⟩, S⟩
theorem SpI.new (I : SpI T H st sc HL IN PL hs ins c n H') (k : Kp T [] H' H'') : SpI T H st sc HL IN PL hs ins c n H'' := by
  obtain ⟨vs, ps, h1, h2, h3⟩ := I.p
  exact ⟨I.k.trans (k.mono (by simp)), k.lst (by simp) I.h, k.lst (by simp) I.i, ⟨vs, ps, k.lst (by simp) h1, h2.tk k.tk0, h3⟩, I.s.kp k (by simp) (by simp)⟩
theorem SpI.mono {n' : Nat} (I : SpI T H st sc HL IN PL hs ins c n H') (h : c ≤ c') (h2 : n ≤ n') : SpI T H st sc HL IN PL hs ins c' n' H' := by
  obtain ⟨vs, ps, a1, a2, a3, a4⟩ := I.p
  exact ⟨I.k, I.h, I.i, ⟨vs, ps, a1, a2, Nat.le_trans a3 h2, a4⟩, I.s.mono h⟩
theorem SpI.grow (I : SpI T H st sc HL IN PL hs ins c n H') (A : Ap H st sc HL IN PL) {zs : List V} {qs : List (Str × Str)} (hq : PT H' zs qs) (hg : ∀ p ∈ qs, p.1 ∈ ins ∧ (p.2 ∈ ins ∨ p.2 ∈ hs)) {xs : List V} (hx : H' PL = some (.lst xs)) :
    SpI T H st sc HL IN PL hs ins c (n + qs.length) (L2.upd H' PL (.lst (xs ++ zs))) := by
  obtain ⟨vs, ps, h1, h2, h3, h4⟩ := I.p
  rw [hx] at h1
  cases h1
  have kk : Kp T [PL] H' (L2.upd H' PL (.lst (xs ++ zs))) := Kp.upd (by simp) hx
  have ka : Kp T [st, sc] H (L2.upd H' PL (.lst (xs ++ zs))) := ((I.k.mono (by simp) : Kp T [PL, st, sc] H H').trans (kk.mono (by simp))).drop A.pn
  refine ⟨ka, kk.lst (by simp [A.p3.symm]) I.h, kk.lst (by simp [A.p4.symm]) I.i, ⟨_, ps ++ qs, upd_same, (h2.append hq).tk (Tk.upd hx), by rw [List.length_append]; omega, fun p hp => ?_⟩, I.s.kp kk (by simp [A.p1.symm]) (by simp [A.p2.symm])⟩
  rcases List.mem_append.mp hp with hp | hp
  · exact h4 p hp
  · exact hg p hp
/-- two pairs made, a list of them, the pairs' list made longer by it -/
theorem SpI.two (I : SpI T H st sc HL IN PL hs ins c n H') (A : Ap H st sc HL IN PL) {x y u w : Str} (g1 : x ∈ ins ∧ (y ∈ ins ∨ y ∈ hs)) (g2 : u ∈ ins ∧ (w ∈ ins ∨ w ∈ hs)) {vs : List V} (hv : H' PL = some (.lst vs)) {q1 q2 q3 : Addr} (h1 : H' q1 = none)
    (h2 : L2.upd H' q1 (.tup [.str x, .str y]) q2 = none) (h3 : L2.upd (L2.upd H' q1 (.tup [.str x, .str y])) q2 (.tup [.str u, .str w]) q3 = none) :
    (L2.upd (L2.upd (L2.upd H' q1 (.tup [.str x, .str y])) q2 (.tup [.str u, .str w])) q3 (.lst [.ref q1, .ref q2])) PL = some (.lst vs) ∧
    (L2.upd (L2.upd (L2.upd H' q1 (.tup [.str x, .str y])) q2 (.tup [.str u, .str w])) q3 (.lst [.ref q1, .ref q2])) q3 = some (.lst [.ref q1, .ref q2]) ∧
    SpI T H st sc HL IN PL hs ins c (n + 2) (L2.upd (L2.upd (L2.upd (L2.upd H' q1 (.tup [.str x, .str y])) q2 (.tup [.str u, .str w])) q3 (.lst [.ref q1, .ref q2])) PL (.lst (vs ++ [.ref q1, .ref q2]))) := by
  have k1 : Kp T [] H' (L2.upd (L2.upd (L2.upd H' q1 (.tup [.str x, .str y])) q2 (.tup [.str u, .str w])) q3 (.lst [.ref q1, .ref q2])) := ((Kp.new h1).trans (Kp.new h2)).trans (Kp.new h3)
  have hv' := k1.lst (by simp) hv
  have e2 : L2.upd (L2.upd H' q1 (.tup [.str x, .str y])) q2 (.tup [.str u, .str w]) q2 = some (.tup [.str u, .str w]) := upd_same
  have e1 : L2.upd (L2.upd H' q1 (.tup [.str x, .str y])) q2 (.tup [.str u, .str w]) q1 = some (.tup [.str x, .str y]) := Tk.new h2 _ _ upd_same
  refine ⟨hv', upd_same, ?_⟩
  exact (I.new k1).grow A (zs := [.ref q1, .ref q2]) (qs := [(x, y), (u, w)]) (.cons ⟨q1, rfl, Tk.new h3 _ _ e1⟩ (.cons ⟨q2, rfl, Tk.new h3 _ _ e2⟩ .nil)) (fun p hp => by
    rcases List.mem_cons.mp hp with rfl | hp
    · exact g1
    · cases List.mem_singleton.mp hp
      exact g2) hv'
/-- one pair made, put at the end -/
theorem SpI.one (I : SpI T H st sc HL IN PL hs ins c n H') (A : Ap H st sc HL IN PL) {x y : Str} (g1 : x ∈ ins ∧ (y ∈ ins ∨ y ∈ hs)) {vs : List V} (hv : H' PL = some (.lst vs)) {q : Addr} (h1 : H' q = none) :
    (L2.upd H' q (.tup [.str x, .str y])) PL = some (.lst vs) ∧ SpI T H st sc HL IN PL hs ins c (n + 1) (L2.upd (L2.upd H' q (.tup [.str x, .str y])) PL (.lst (vs ++ [.ref q]))) := by
  have k1 : Kp T [] H' (L2.upd H' q (.tup [.str x, .str y])) := Kp.new h1
  have hv' := k1.lst (by simp) hv
  refine ⟨hv', ?_⟩
  exact (I.new k1).grow A (zs := [.ref q]) (qs := [(x, y)]) (.cons ⟨q, rfl, upd_same⟩ .nil) (fun p hp => by
    cases List.mem_singleton.mp hp
    exact g1) hv'
theorem SpI.len (I : SpI T H st sc HL IN PL hs ins c n H') {vs : List V} (hv : H' PL = some (.lst vs)) : vs.length ≤ n := by
  obtain ⟨vs', ps, h1, h2, h3, _⟩ := I.p
  rw [hv] at h1
  cases h1
  have : vs.length = ps.length := Paired.length h2
  omega
end
end Sky
set_option Elab.async false
set_option linter.all false
set_option maxRecDepth 100000
set_option maxHeartbeats 4000000
/-! Sky S: dicts whose keys are pairs of names. -/
namespace Sky
open PySem PySem.Spec PyProof.Rows L2 LamX NdefX
theorem kp_updT {T : List NTab} {l : List Addr} {H : Hp} {p : Addr} {o : HO} {kvs : List (List Key × V)} (hp : p ∈ l) (h : H p = some (.dT kvs)) : Kp T l H (L2.upd H p o) := by
  refine ⟨fun b u n e _ => ?_, fun t q hq => ?_, fun b => upd_none'⟩
  · have nb : b ≠ p := fun z => n (z ▸ hp)
    rw [upd_ne nb]
    exact e
  · obtain ⟨ps, h1, h2, h3⟩ := t q hq
    have nb : ∀ b u, H b = some u → (∀ fs, u ≠ .dT fs) → b ≠ p := fun b u e n z => by
      rw [z, h] at e
      cases e
      exact n _ rfl
    refine ⟨ps, by rw [upd_ne (nb _ _ h1 fun _ z => by cases z)]; exact h1, h2, fun pos cv hc => ?_⟩
    obtain ⟨c, e1, e2⟩ := h3 pos cv hc
    exact ⟨c, e1, by rw [upd_ne (nb _ _ e2 fun _ z => by unfold CodeO at z; cases z)]; exact e2⟩
theorem putK_mem {κ : Type} [DecidableEq κ] {kvs : List (κ × V)} {k : κ} {v : V} {e : κ × V} (h : e ∈ putK kvs k v) : e = (k, v) ∨ e ∈ kvs := by
  unfold putK at h
  split at h
  · obtain ⟨x, hx, rfl⟩ := List.mem_map.mp h
    split
    · rename_i hk
      rw [hk]
      exact .inl rfl
    · exact .inr hx
  · rcases List.mem_append.mp h with h | h
    · exact .inr h
    · exact .inl (List.mem_singleton.mp h)
theorem putK_nodup {κ : Type} [DecidableEq κ] {kvs : List (κ × V)} {k : κ} {v : V} (nd : (kvs.map (·.1)).Nodup) : ((putK kvs k v).map (·.1)).Nodup := by
  cases e : valV kvs k with
  | none => exact nd_putK v nd e
  | some y =>
    have hany : (kvs.any fun kv => decide (kv.1 = k)) = true := by rw [valV_any, e]; rfl
    unfold putK
    rw [if_pos hany, List.map_map]
    have e2 : kvs.map ((fun x : κ × V => x.1) ∘ fun kv => if kv.1 = k then (kv.1, v) else kv) = kvs.map (·.1) := by
      apply List.map_congr_left
      intro x _
      show (if x.1 = k then (x.1, v) else x).1 = x.1
      split <;> rfl
    rw [e2]
    exact nd
/-- keys (a, b), values numbers -/
def LnK (ins hs : List Str) (kvs : List (List Key × V)) : Prop := ∀ e ∈ kvs, ∃ (a b : Str) (c : Int), e = ([Sum.inr a, Sum.inr b], V.int c) ∧ a ∈ ins ∧ (b ∈ ins ∨ b ∈ hs) ∧ b ≠ a ∧ 1 ≤ c ∧ c ≤ 5
theorem LnK.put {ins hs : List Str} {kvs : List (List Key × V)} (h : LnK ins hs kvs) {a b : Str} {c : Int} (h1 : a ∈ ins) (h2 : b ∈ ins ∨ b ∈ hs) (h3 : b ≠ a) (h4 : 1 ≤ c) (h5 : c ≤ 5) : LnK ins hs (putK kvs [Sum.inr a, Sum.inr b] (.int c)) := fun e he => by
  rcases putK_mem he with rfl | he
  · exact ⟨a, b, c, rfl, h1, h2, h3, h4, h5⟩
  · exact h e he
/-- as lanes -/
theorem LnK.ex {ins hs : List Str} : ∀ {kvs : List (List Key × V)}, LnK ins hs kvs → ∃ ls : List (Str × Str × Int), kvs = ls.map (fun p => ([Sum.inr p.1, Sum.inr p.2.1], V.int p.2.2)) ∧ ∀ p ∈ ls, p.1 ∈ ins ∧ (p.2.1 ∈ ins ∨ p.2.1 ∈ hs) ∧ p.2.1 ≠ p.1 ∧ 1 ≤ p.2.2 ∧ p.2.2 ≤ 5
  | [], _ => ⟨[], rfl, fun _ z => by cases z⟩
  | e :: r, h => by
    obtain ⟨ls, e1, e2⟩ := LnK.ex (kvs := r) fun x hx => h x (List.mem_cons_of_mem _ hx)
    obtain ⟨a, b, c, rfl, h1⟩ := h e (List.mem_cons_self ..)
    refine ⟨(a, b, c) :: ls, by rw [e1]; rfl, fun p hp => ?_⟩
    rcases List.mem_cons.mp hp with rfl | hp
    · exact h1
    · exact e2 p hp
theorem SpI.updT {T : List NTab} {H H' : Hp} {st sc HL IN PL DL : Addr} {hs ins : List Str} {c n : Nat} {kvs : List (List Key × V)} {o : HO} (I : SpI T H st sc HL IN PL hs ins c n H') (h : H' DL = some (.dT kvs)) (hn : H DL = none) : SpI T H st sc HL IN PL hs ins c n (L2.upd H' DL o) := by
  have kk : Kp T [DL] H' (L2.upd H' DL o) := kp_updT (by simp) h
  obtain ⟨vs, ps, h1, h2, h3⟩ := I.p
  have nl : ∀ {a xs}, H' a = some (.lst xs) → a ≠ DL := fun e => ne_of e h fun z => by cases z
  have tk : Tk H' (L2.upd H' DL o) := fun q zs e => by
    rw [upd_ne (ne_of e h fun z => by cases z)]
    exact e
  exact ⟨((I.k.mono (by simp) : Kp T [DL, st, sc] H H').trans (kk.mono (by simp))).drop hn, by rw [upd_ne (nl I.h)]; exact I.h, by rw [upd_ne (nl I.i)]; exact I.i, ⟨vs, ps, by rw [upd_ne (nl h1)]; exact h1, h2.tk tk, h3⟩,
    I.s.kp kk (by simpa using nl I.s.some.1.choose_spec) (by simpa using nl I.s.some.2.choose_spec)⟩
theorem tk_d {T : List NTab} {H1 H2 : Hp} {DL st sc : Addr} {c : Nat} {kvs : List (List Key × V)} (hd : H1 DL = some (.dT kvs)) (S : StrAt c st sc H1) (k : Kp T [DL, st, sc] H1 H2) : Tk H1 H2 := fun a zs e => k.tup (fun ha => by
  rcases List.mem_cons.mp ha with rfl | ha
  · rw [hd] at e; cases e
  · rcases List.mem_cons.mp ha with rfl | ha
    · rw [S.some.1.choose_spec] at e; cases e
    · cases List.mem_singleton.mp ha
      rw [S.some.2.choose_spec] at e; cases e) e
/-- merging unlike keys into nothing -/
theorem mergeK_nd {more : List (Key × V)} (nd : (more.map (·.1)).Nodup) : mergeK [] more = more := by
  have go : ∀ i, i ≤ more.length → mergeK [] (more.take i) = more.take i := fun i => by
    induction i with
    | zero => intro _; rfl
    | succ i ih =>
      intro h
      have e : more[i]? = some more[i] := List.getElem?_eq_getElem (by omega)
      have q := putK_snoc (i := i) (k := more[i].1) (v := more[i].2) nd e
      have e2 : more.take (i + 1) = more.take i ++ [more[i]] := by
        rw [List.take_add_one, e]
        rfl
      rw [e2]
      unfold mergeK
      rw [List.foldl_append]
      show putK (mergeK [] (more.take i)) more[i].1 more[i].2 = _
      rw [ih (by omega), q, e2]
  have q := go more.length (Nat.le_refl _)
  rw [List.take_length] at q
  exact q
theorem valV_atG {κ : Type} [DecidableEq κ] {kvs : List (κ × V)} (nd : (kvs.map (·.1)).Nodup) {i : Nat} {k : κ} {v : V} (e : kvs[i]? = some (k, v)) : valV kvs k = some v := by
  induction kvs generalizing i with
  | nil => simp at e
  | cons p r ih =>
    rw [List.map_cons, List.nodup_cons] at nd
    cases i with
    | zero =>
      simp at e
      subst e
      exact valV_pos rfl
    | succ i =>
      have e' : r[i]? = some (k, v) := by simpa using e
      have hm : k ∈ r.map (·.1) := List.mem_map.mpr ⟨(k, v), List.mem_of_getElem? e', rfl⟩
      rw [valV_neg fun z => nd.1 (z ▸ hm)]
      exact ih nd.2 e'
theorem Ke.tk {H H' : Hp} (k : Ke H H') : Tk H H' := fun q zs e => k _ _ e fun _ z => by cases z
/-- the values vs are tuples of what f tells of the items -/
def TT {α : Type} (f : α → List V) (H : Hp) (vs : List V) (as : List α) : Prop := Paired (fun v a => ∃ q, v = .ref q ∧ H q = some (.tup (f a))) vs as
theorem TT.tk {α : Type} {f : α → List V} {H H' : Hp} {vs : List V} {as : List α} (h : TT f H vs as) (k : Tk H H') : TT f H' vs as := by
  unfold TT at h ⊢
  induction h with
  | nil => exact .nil
  | cons h _ ih =>
    obtain ⟨q, e1, e2⟩ := h
    exact .cons ⟨q, e1, k _ _ e2⟩ ih
theorem TT.snoc {α : Type} {f : α → List V} {H : Hp} {vs : List V} {as : List α} {q : Addr} {a : α} (h : TT f H vs as) (k : H q = some (.tup (f a))) : TT f H (vs ++ [.ref q]) (as ++ [a]) := by
  unfold TT at h ⊢
  induction h with
  | nil => exact .cons ⟨q, rfl, k⟩ .nil
  | cons h _ ih => exact .cons h ih
theorem TT.refs {α : Type} {f : α → List V} {H : Hp} {vs : List V} {as : List α} (h : TT f H vs as) : ∃ ps : List Addr, vs = ps.map V.ref ∧ Paired (fun p a => H p = some (.tup (f a))) ps as := by
  unfold TT at h
  induction h with
  | nil => exact ⟨[], rfl, .nil⟩
  | cons h _ ih =>
    obtain ⟨q, rfl, e2⟩ := h
    obtain ⟨ps, rfl, hp⟩ := ih
    exact ⟨q :: ps, rfl, .cons e2 hp⟩
theorem TT.len {α : Type} {f : α → List V} {H : Hp} {vs : List V} {as : List α} (h : TT f H vs as) : vs.length = as.length := Paired.length h
theorem TT.rp {α : Type} {f : α → List V} {g : α → List PyData} {K : PySem.W.Frag} {H : Hp} {vs : List V} {as : List α} (h : TT f H vs as) (hf : ∀ a, RpA K H (f a) (g a)) : RpA K H vs (as.map fun a => .tuple (g a)) := by
  unfold TT at h
  induction h with
  | nil => exact .nil
  | cons h _ ih =>
    obtain ⟨q, rfl, e2⟩ := h
    exact .cons (.tup (SqT.of e2) (hf _)) ih
theorem rpD_rm {K : PySem.W.Frag} {H : Hp} : ∀ rooms : List (Str × Int), RpD K H (rooms.map fun p => ((Sum.inr p.1 : Key), V.int p.2)) (rooms.map fun p => (.str p.1, .int p.2))
  | [] => .nil
  | p :: r => .cons (.int p.2) (rpD_rm r)
end Sky
set_option Elab.async false
set_option linter.all false
set_option maxRecDepth 100000
set_option maxHeartbeats 4000000
/-! Sky T: sorted things once more; flat tuples own nothing. -/
namespace Sky
open PySem PySem.Spec PyProof.Rows L2 LamX NdefX PySem.W
mutual
/-- plain things and tuples of such -/
def tupO : PyData → Bool
  | .tuple xs => tupOA xs
  | .list _ => false
  | .dict _ => false
  | _ => true
def tupOA : List PyData → Bool
  | [] => true
  | x :: xs => tupO x && tupOA xs
end
mutual
def dpt : PyData → Nat
  | .tuple xs => dptA xs + 1
  | _ => 0
def dptA : List PyData → Nat
  | [] => 0
  | x :: xs => max (dpt x) (dptA xs)
end
mutual
theorem Rp.ow0 {K : PySem.W.Frag} {H : Hp} : ∀ {v : V} {d : PyData}, Rp K H v d → tupO d = true → ∀ n, dpt d ≤ n → Ow K H v n []
  | _, _, .non, _, _, _ => .leaf rfl
  | _, _, .bl _, _, _, _ => .leaf rfl
  | _, _, .int _, _, _, _ => .leaf rfl
  | _, _, .str _, _, _, _ => .leaf rfl
  | _, _, .lst _ _, h, _, _ => by simp [tupO] at h
  | _, _, .dct _ _, h, _, _ => by simp [tupO] at h
  | _, _, .tup (ds := ds) h1 h2, h, n, hn => by
    have hn' : dptA ds + 1 ≤ n := by simpa [dpt] using hn
    obtain ⟨m, rfl⟩ : ∃ m, n = m + 1 := ⟨n - 1, by omega⟩
    exact .tup h1 (h2.ow0 (by simpa [tupO] using h) m (by omega))
theorem RpA.ow0 {K : PySem.W.Frag} {H : Hp} : ∀ {v : List V} {d : List PyData}, RpA K H v d → tupOA d = true → ∀ n, dptA d ≤ n → OwA K H v n []
  | _, _, .nil, _, _, _ => .nil
  | _, _, .cons (d := d) (ds := ds) h t, e, n, hn => by
    have e' : tupO d = true ∧ tupOA ds = true := by simpa [tupOA] using e
    have hn' : max (dpt d) (dptA ds) ≤ n := by simpa [dptA] using hn
    have q := OwA.cons (h.ow0 e'.1 n (by omega)) (t.ow0 e'.2 n (by omega)) (fun _ z => by cases z)
    exact q
end
theorem tupOA_map {α : Type} {f : α → PyData} (h : ∀ a, tupO (f a) = true) : ∀ l : List α, tupOA (l.map f) = true
  | [] => by simp [tupOA]
  | a :: l => by rw [List.map_cons, tupOA, h, tupOA_map h l]; rfl
theorem dptA_map {α : Type} {f : α → PyData} {n : Nat} (h : ∀ a, dpt (f a) ≤ n) : ∀ l : List α, dptA (l.map f) ≤ n
  | [] => by simp [dptA]
  | a :: l => by
    rw [List.map_cons, dptA]
    have := dptA_map h l
    have := h a
    omega
theorem ow_ints {K : PySem.W.Frag} {H : Hp} (n : Nat) : ∀ ns : List Int, OwA K H (ns.map V.int) n []
  | [] => .nil
  | z :: r => OwA.cons (.leaf rfl) (ow_ints n r) (fun _ z => by cases z)
theorem ow_strs {K : PySem.W.Frag} {H : Hp} (n : Nat) : ∀ ns : List Str, OwA K H (ns.map V.str) n []
  | [] => .nil
  | z :: r => OwA.cons (.leaf rfl) (ow_strs n r) (fun _ z => by cases z)
/-! ### the order of data that are told apart by it -/
theorem dataLe_total {β : Type} (enc : β → PyData) : TotalLe (dataLe false enc) := sortLe_total _ false _
/-- two of them are one if neither is less -/
def Apt {β : Type} (enc : β → PyData) : Prop := ∀ a b, keyToks (enc a) = keyToks (enc b) → a = b
theorem apt_antisymm {β : Type} {enc : β → PyData} (h : Apt enc) {a b : β} (h1 : dataLe false enc a b = true) (h2 : dataLe false enc b a = true) : a = b := by
  refine h a b ?_
  have e1 : (listOrd itemOrd).blt (keyToks (enc b)) (keyToks (enc a)) = false := by simpa [dataLe, sortLe] using h1
  have e2 : (listOrd itemOrd).blt (keyToks (enc a)) (keyToks (enc b)) = false := by simpa [dataLe, sortLe] using h2
  exact (listOrd itemOrd).total _ _ e2 e1
theorem srt_uniq {β : Type} {enc : β → PyData} (h : Apt enc) : ∀ {l m : List β}, l.Perm m → l.Pairwise (fun a b => dataLe false enc a b = true) → m.Pairwise (fun a b => dataLe false enc a b = true) → l = m
  | [], m, p, _, _ => (List.nil_perm.mp p).symm
  | a :: l, [], p, _, _ => absurd p.length_eq (by simp)
  | a :: l, b :: m, p, h1, h2 => by
    have hab : a = b := by
      rw [List.pairwise_cons] at h1 h2
      have m1 : a ∈ b :: m := p.mem_iff.mp (List.mem_cons_self ..)
      have m2 : b ∈ a :: l := p.mem_iff.mpr (List.mem_cons_self ..)
      rcases List.mem_cons.mp m1 with e | m1
      · exact e
      · rcases List.mem_cons.mp m2 with e | m2
        · exact e.symm
        · exact apt_antisymm h (h1.1 b m2) (h2.1 a m1)
    subst hab
    rw [List.pairwise_cons] at h1 h2
    rw [srt_uniq h ((List.perm_cons a).mp p) h1.2 h2.2]
theorem srtBy_sorted {β : Type} (enc : β → PyData) (l : List β) : (srtBy enc l).Pairwise (fun a b => dataLe false enc a b = true) := sort_pairwise (dataLe_total enc) l
theorem srtBy_congr {β : Type} {enc : β → PyData} (h : Apt enc) {l m : List β} (p : l.Perm m) : srtBy enc l = srtBy enc m :=
  srt_uniq h (((srtBy_perm enc l).trans p).trans (srtBy_perm enc m).symm) (srtBy_sorted enc l) (srtBy_sorted enc m)
theorem srtBy_idem {β : Type} {enc : β → PyData} (h : Apt enc) (l : List β) : srtBy enc (srtBy enc l) = srtBy enc l := srtBy_congr h (srtBy_perm enc l)
theorem apt_str : Apt PyData.str := fun a b h => by
  simp [keyToks] at h
  first | exact str_of_cps (by rw [h]) | exact str_of_cps h
end Sky
set_option Elab.async false
set_option linter.all false
set_option maxRecDepth 100000
set_option maxHeartbeats 4000000
namespace Sky
open PySem PySem.Spec PyProof.Rows L2 LamX NdefX
section
variable {P : Program} {w : World} {K : PySem.W.Frag} {mg : Str → Option Value} {base : Heap} {T : List NTab}

theorem walk_zipT {K : PySem.W.Frag} {a b : Addr} {xs ys : List V} {n : Nat} (hn : n = min xs.length ys.length) : Walk (RZ.ItzT K a b) n (fun H => SqT K H a xs ∧ SqT K H b ys) (YPair (fun i => xs[i]?) (fun i => ys[i]?)) := by
  subst hn
  refine ⟨fun i _ hi q => ?_, fun _ q => ⟨xs, ys, q.1, q.2, by omega⟩, fun i H v H' _ q y => ?_⟩
  · have h1 : i < xs.length := by omega
    have h2 : i < ys.length := by omega
    exact ⟨xs, ys, xs[i], ys[i], q.1, q.2, by simp [h1], by simp [h2]⟩
  · obtain ⟨T, x, z, h1, h2, h3, h4, h5⟩ := y
    exact ⟨T, x, z, h1, h2, h3, h4 xs q.1, h5 ys q.2⟩
theorem none_ne {H : Hp} {a b : Addr} {o : HO} (h : H a = some o) (h' : H b = none) : b ≠ a := (ne_of_none h h').symm

theorem rp_key {K : PySem.W.Frag} {H : Hp} (k : Key) : Rp K H (kV k) (kD k) := by
  cases k with
  | inl i => exact .int i
  | inr x => exact .str x
/-- the pairs of a dict's items -/
theorem rp_items {K : PySem.W.Frag} {H : Hp} : ∀ {xs : List (Key × V)} {ds : List (PyData × PyData)} {ts : List Addr}, RpD K H xs ds → Paired (fun (t : Addr) (q : Key × V) => H t = some (.tup [kV q.1, q.2])) ts xs → RpA K H (ts.map V.ref) (ds.map fun p => .tuple [p.1, p.2])
  | _, _, _, .nil, .nil => .nil
  | _, _, _, .cons h t, .cons e r => .cons (.tup (SqT.of e) (.cons (rp_key _) (.cons h .nil))) (rp_items t r)

/-! ### _law_same -/
mutual
/-- how deep the recursion goes -/
def lv : PyData → Nat
  | .list xs => lvA xs + 1
  | .tuple xs => lvA xs + 1
  | .dict xs => lvD xs + 3
  | _ => 0
def lvA : List PyData → Nat
  | [] => 0
  | x :: xs => max (lv x) (lvA xs)
def lvD : List (PyData × PyData) → Nat
  | [] => 0
  | (a, b) :: xs => max (max (lv a) (lv b)) (lvD xs)
end
theorem lv_mem : ∀ {ds : List PyData} {d : PyData}, d ∈ ds → lv d ≤ lvA ds
  | x :: xs, d, h => by
    simp only [lvA]
    rcases List.mem_cons.mp h with rfl | h
    · omega
    · have := lv_mem h
      omega
theorem lvA_items : ∀ ds : List (PyData × PyData), lvA (ds.map fun p => .tuple [p.1, p.2]) ≤ lvD ds + 1
  | [] => by simp [lvA]
  | (a, b) :: r => by
    have := lvA_items r
    simp only [List.map_cons, lvA, lv, lvD]
    omega
theorem DefOk.zero {x : Str} {st : Stmt} {N ps : List Str} {sp : Sp} (F : TopFn K mg x st) (S : FnScope N ps (defScope st))
    (hb : ∀ (kV doc pm : Value) (an : Option Addr) (cdv ct : Value) (us : List Value), us.length = ps.length → bindArgs (PySem.W.fnOf x x (defArgs st) (defBody st) (defScope st) .none kV doc pm an cdv ct) ⟨us, []⟩ = pure (ps.zip us))
    (no : ∀ vs H Q E, ¬ sp vs H Q E) : DefOk P w K mg base 0 x sp := by
  obtain ⟨f, fd, F, hm⟩ := F.ex
  exact ⟨f, fd, ps, ⟨fun vs H Q E h => (no vs H Q E h).elim, fun A outer s H args us vs Q E _ _ _ _ h => (no vs H Q E h).elim⟩, hm, F.kp, F.binds hb⟩
abbrev s_same : Stmt := top 22
abbrev n_same : List Str := ["found", "due", "mine", "theirs"]
theorem sc_same : FnScope n_same ["found", "due"] (defScope s_same) := ⟨rfl, rfl, rfl, by decide +kernel, rfl, by decide +kernel, by decide +kernel⟩
def sp_same (K : PySem.W.Frag) (T : List NTab) (n : Nat) : Sp := fun vs H Q _ => ∃ (x y : V) (d : PyData), vs = [x, y] ∧ Rp K H x d ∧ Rp K H y d ∧ lv d < n ∧ ∀ H', Kp T [] H H' → Q (.bl true) H'
theorem d_same (B : Blt mg) (F : TopFn K mg "_law_same" s_same) : ∀ n, DefOk P w K mg base n "_law_same" (sp_same K T n)
  | 0 => DefOk.zero F sc_same (fun _ _ _ _ _ _ us hl => match us, hl with | [_, _], _ => rfl) fun vs H Q E h => by
    obtain ⟨_, _, _, _, _, _, h, _⟩ := h
    exact absurd h (Nat.not_lt_zero _)
  | n + 1 => by
    have G := d_same B F n
    refine F.ok sc_same (fun _ _ _ _ _ _ us hl => match us, hl with | [_, _], _ => rfl) (fun vs H Q E h => ?_) (fun f cdv A outer s H vs Q E hr h => ?_)
    · obtain ⟨x, y, d, rfl, _⟩ := h
      rfl
    · obtain ⟨x, y, d, rfl, hx, hy, hn, k⟩ := h
      refine ⟨_, (pss_cons (ps_if (pt_val (e_isiN B (pa_cons (pv 1) (pa_cons (pe_tup (pa_cons (e_ty "list" B.list) (pa_cons (e_ty "tuple" B.tuple) pa_nil))) pa_nil)))) (pss_cons (ps_if (pw_or (pt_cmpR op_ne (e_isi B (pa_cons (pv 0) (pa_cons (e_ty "list" B.list) pa_nil))) (e_isi B (pa_cons (pv 1) (pa_cons (e_ty "list" B.list) pa_nil))) (nomark _)) (pw_or1 (pt_cmpR op_ne (e_isi B (pa_cons (pv 0) (pa_cons (e_ty "tuple" B.tuple) pa_nil))) (e_isi B (pa_cons (pv 1) (pa_cons (e_ty "tuple" B.tuple) pa_nil))) (nomark _)))).pt (pss_one (ps_ret pe_bl)) pss_nil)
      (pss_one (ps_ret (pe_and (pe_cmpR op_eq (e_len B (pa_cons (pv 0) pa_nil)) (e_len B (pa_cons (pv 1) pa_nil)) (nomark _)) (pe_one (e_all B (pa_cons (pe_lc (own := [("mine", 2), ("theirs", 3)]) (g := gTup K 2 (gCons (gName 2) (gCons (gName 3) gNil))) (tt := tYes) (by rfl) sc_same.nd (RZ.pi_zipA (by rfl) B.zip (pa_cons (pv 0) (pa_cons (PE.sz (pv 1)) pa_nil))) (blkOk_by (N := n_same) (sc := defScope s_same) (by decide +kernel)) (fun _ _ _ _ _ => (pg_tup rfl (pgs_cons (pg_name (i := 2) sc_same.nd rfl (Or.inl rfl)) (pgs_cons (pg_name (i := 3) sc_same.nd rfl (Or.inl rfl)) pgs_nil)))) (fun _ _ _ _ _ => pts_nil) (fun _ _ _ _ _ => (pe_d G hr (pa_cons (pv 2) (pa_cons (pv 3) pa_nil)) (Nat.le_refl _)))) pa_nil))))))) pss_nil)
      (pss_cons (ps_if (pt_val (e_isi B (pa_cons (pv 1) (pa_cons (e_ty "dict" B.dict) pa_nil)))) (pss_one (ps_ret (pe_and (e_isi B (pa_cons (pv 0) (pa_cons (e_ty "dict" B.dict) pa_nil))) (pe_one (pe_d G hr (pa_cons (LiI.pe_listItems rfl (pv 0) (by rfl) B.list (by decide +kernel)) (pa_cons (LiI.pe_listItems rfl (pv 1) (by rfl) B.list (by decide +kernel)) pa_nil)) (Nat.le_refl _)))))) pss_nil)
      (pss_cons (ps_if (pw_or (pt_val (e_isi B (pa_cons (pv 1) (pa_cons (e_ty "bool" B.bool) pa_nil)))) (pw_or1 (pt_val (e_isi B (pa_cons (pv 0) (pa_cons (e_ty "bool" B.bool) pa_nil)))))).pt (pss_one (ps_ret (pe_and (e_isi B (pa_cons (pv 1) (pa_cons (e_ty "bool" B.bool) pa_nil))) (pe_and (e_isi B (pa_cons (pv 0) (pa_cons (e_ty "bool" B.bool) pa_nil))) (pe_one (pe_cmpR op_eq (pv 0) (pv 1) (nomark _))))))) pss_nil)
      (pss_cons (ps_if (pw_or (pt_cmpR op_isN (pv 1) pe_non (nomark _)) (pw_or1 (pt_cmpR op_isN (pv 0) pe_non (nomark _)))).pt (pss_one (ps_ret (pe_and (pe_cmpR op_isN (pv 1) pe_non (nomark _)) (pe_one (pe_cmpR op_isN (pv 0) pe_non (nomark _)))))) pss_nil)
      (pss_cons (ps_if (pw_or (pt_cmpR op_ne (e_isi B (pa_cons (pv 1) (pa_cons (e_ty "int" B.int) pa_nil))) (e_isi B (pa_cons (pv 0) (pa_cons (e_ty "int" B.int) pa_nil))) (nomark _)) (pw_or1 (pt_cmpR op_ne (e_isi B (pa_cons (pv 1) (pa_cons (e_ty "str" B.str) pa_nil))) (e_isi B (pa_cons (pv 0) (pa_cons (e_ty "str" B.str) pa_nil))) (nomark _)))).pt (pss_one (ps_ret pe_bl)) pss_nil)
      (pss_one (ps_ret (pe_and (pe_not (e_isiN B (pa_cons (pv 0) (pa_cons (pe_tup (pa_cons (e_ty "list" B.list) (pa_cons (e_ty "tuple" B.tuple) (pa_cons (e_ty "dict" B.dict) pa_nil)))) pa_nil)))) (pe_one (pe_cmpR op_eq (pv 0) (pv 1) (nomark _))))))))))), ?_⟩
      -- isinstance(due, (list, tuple))
      refine ⟨_, rfl, by show 2 ≤ sizeLine; decide, fun p hp => ?_⟩
      have K1 : Kp T [] H (upd H p (.tup [.ty "list", .ty "tuple"])) := Kp.new hp
      have hx := hx.ke K1.ke0
      have hy := hy.ke K1.ke0
      refine ⟨_, p, [.lst, .tup], _, rfl, upd_same, hy.tg, _, rfl, ?_⟩
      generalize upd H p (.tup [.ty "list", .ty "tuple"]) = H1 at K1 hx hy ⊢
      clear hp
      cases d with
      | none =>
        cases hx
        cases hy
        refine iteF ⟨_, rfl, _, .dct, _, rfl, .non, _, rfl, iteF ⟨_, rfl, _, .bl, _, rfl, .non, _, rfl, iteF ⟨_, rfl, _, .bl, _, rfl, .non, _, rfl, iteF ⟨_, rfl, rfl, _, rfl, iteT ?_⟩⟩⟩⟩
        exact ⟨_, rfl, rfl, _, rfl, iteT ⟨_, rfl, rfl, k _ K1⟩⟩
      | bool b =>
        cases hx
        cases hy
        refine iteF ⟨_, rfl, _, .dct, _, rfl, .bl b, _, rfl, iteF ⟨_, rfl, _, .bl, _, rfl, .bl b, _, rfl, iteT ?_⟩⟩
        refine ⟨_, rfl, _, .bl, _, rfl, .bl b, _, rfl, iteT ⟨_, rfl, _, .bl, _, rfl, .bl b, _, rfl, iteT ⟨_, rfl, _, rfl, rfl, ?_⟩⟩⟩
        show Q (.bl (decide (V.bl b = V.bl b))) _
        rw [decide_eq_true rfl]
        exact k _ K1
      | int i =>
        cases hx
        cases hy
        refine iteF ⟨_, rfl, _, .dct, _, rfl, .int i, _, rfl, iteF ⟨_, rfl, _, .bl, _, rfl, .int i, _, rfl, iteF ⟨_, rfl, _, .bl, _, rfl, .int i, _, rfl, iteF ⟨_, rfl, rfl, _, rfl, iteF ⟨_, rfl, rfl, _, rfl, iteF ?_⟩⟩⟩⟩⟩
        refine ⟨_, rfl, _, .int, _, rfl, .int i, _, rfl, _, .int, _, rfl, .int i, rfl, _, rfl, iteF ⟨_, rfl, _, .str, _, rfl, .int i, _, rfl, _, .str, _, rfl, .int i, rfl, _, rfl, iteF ?_⟩⟩
        refine ⟨_, rfl, by show 3 ≤ sizeLine; decide, fun p hp => ⟨_, p, [.lst, .tup, .dct], _, rfl, upd_same, .int i, _, rfl, _, rfl, iteT ⟨_, rfl, _, rfl, rfl, ?_⟩⟩⟩
        show Q (.bl (decide (_ = _))) _
        rw [decide_eq_true rfl]
        exact k _ (K1.trans (Kp.new hp))
      | str z =>
        cases hx
        cases hy
        refine iteF ⟨_, rfl, _, .dct, _, rfl, .str z, _, rfl, iteF ⟨_, rfl, _, .bl, _, rfl, .str z, _, rfl, iteF ⟨_, rfl, _, .bl, _, rfl, .str z, _, rfl, iteF ⟨_, rfl, rfl, _, rfl, iteF ⟨_, rfl, rfl, _, rfl, iteF ?_⟩⟩⟩⟩⟩
        refine ⟨_, rfl, _, .int, _, rfl, .str z, _, rfl, _, .int, _, rfl, .str z, rfl, _, rfl, iteF ⟨_, rfl, _, .str, _, rfl, .str z, _, rfl, _, .str, _, rfl, .str z, rfl, _, rfl, iteF ?_⟩⟩
        refine ⟨_, rfl, by show 3 ≤ sizeLine; decide, fun p hp => ⟨_, p, [.lst, .tup, .dct], _, rfl, upd_same, .str z, _, rfl, _, rfl, iteT ⟨_, rfl, _, rfl, rfl, ?_⟩⟩⟩
        show Q (.bl (decide (_ = _))) _
        rw [decide_eq_true rfl]
        exact k _ (K1.trans (Kp.new hp))
      | list ds =>
        cases hx with
        | lst hx1 hx2 =>
        cases hy with
        | lst hy1 hy2 =>
        rename_i a xs b ys
        have tx : TgOf K H1 (.ref a) .lst := .lst (SqL.of hx1)
        have ty : TgOf K H1 (.ref b) .lst := .lst (SqL.of hy1)
        refine iteT ⟨_, rfl, _, .lst, _, rfl, tx, _, rfl, _, .lst, _, rfl, ty, rfl, _, rfl, iteF ⟨_, rfl, _, .tup, _, rfl, tx, _, rfl, _, .tup, _, rfl, ty, rfl, _, rfl, iteF ?_⟩⟩
        have hl : xs.length = ys.length := hx2.length.trans hy2.length.symm
        refine ⟨_, rfl, _, _, rfl, .inl ⟨xs, (SqL.of hx1), rfl⟩, _, rfl, _, _, rfl, .inl ⟨ys, (SqL.of hy1), rfl⟩, rfl, _, rfl, ?_⟩
        rw [hl, decide_eq_true rfl]
        refine iteT ⟨_, rfl, _, rfl, fun Z => ⟨a, b, xs, ys, rfl, .inl ⟨(SqL.of hx1), (SqL.of hy1), fun D hD => ?_⟩⟩⟩
        refine lc_it (walk_zip (xs := xs) (ys := ys) (n := xs.length) (by omega)) (fun i H' => Kp T [D] (upd H1 D (.lst [])) H' ∧ H' D = some (.lst ((List.replicate i true).map V.bl))) ⟨Kp.refl, upd_same⟩ (fun i H' hi p => ?_) (fun i v H' H'' hi p y => ?_) fun H' p => ?_
        · have k0 : Ke H1 H' := (((Kp.new hD).trans (p.1.mono (by simp)) : Kp T [D] H1 H').drop hD).ke0
          exact ⟨k0.lq (SqL.of hx1), k0.lq (SqL.of hy1)⟩
        · obtain ⟨p1, p2⟩ := p
          have k0 : Ke H1 H' := (((Kp.new hD).trans (p1.mono (by simp)) : Kp T [D] H1 H').drop hD).ke0
          obtain ⟨T0, x, y, rfl, n0, rfl, ex, ey⟩ := y
          have k1 : Ke H1 (upd H' T0 (.tup [x, y])) := k0.trans (Ke.new n0)
          obtain ⟨d1, f1, r1⟩ := hx2.get ex
          obtain ⟨d2, f2, r2⟩ := hy2.get ey
          rw [f1] at f2
          cases f2
          have nD : T0 ≠ D := none_ne p2 n0
          refine ⟨T0, [x, y], rfl, SqT.of upd_same, rfl, _, _, rfl, _, _, rfl, rfl, rfl, ?_⟩
          refine ⟨_, rfl, _, rfl, x, y, d1, rfl, r1.ke k1, r2.ke k1, ?_, fun H3 K3 => ?_⟩
          · have q := lv_mem (List.mem_of_getElem? f1)
            simp only [lv] at hn
            omega
          · have hD3 : H3 D = some (.lst ((List.replicate i true).map V.bl)) := K3.lst (by simp) (by rw [upd_ne nD.symm]; exact p2)
            refine ⟨_, hD3, ?_, p1.trans (((Kp.new n0).trans (K3.mono (by simp))).trans (Kp.upd (by simp) hD3)), ?_⟩
            · rw [List.length_map, List.length_replicate]
              exact Nat.lt_of_lt_of_le hi (Z.sl _ _ (SqL.of hx1))
            · rw [upd_same, List.replicate_succ', List.map_append]
              rfl
        · obtain ⟨p1, p2⟩ := p
          refine ⟨D, _, rfl, SqL.of p2, ?_⟩
          have e : (List.replicate (xs.length) true).all id = true := by simp
          show Q (.bl _) H'
          rw [e]
          exact k _ (K1.trans ((((Kp.new hD).trans (p1.mono (by simp)) : Kp T [D] H1 H').drop hD)))
      | tuple ds =>
        cases hx with
        | tup hx1 hx2 =>
        cases hy with
        | tup hy1 hy2 =>
        rename_i a xs b ys
        have tx : TgOf K H1 (.ref a) .tup := .tup hx1
        have ty : TgOf K H1 (.ref b) .tup := .tup hy1
        refine iteT ⟨_, rfl, _, .lst, _, rfl, tx, _, rfl, _, .lst, _, rfl, ty, rfl, _, rfl, iteF ⟨_, rfl, _, .tup, _, rfl, tx, _, rfl, _, .tup, _, rfl, ty, rfl, _, rfl, iteF ?_⟩⟩
        have hl : xs.length = ys.length := hx2.length.trans hy2.length.symm
        refine ⟨_, rfl, _, _, rfl, .inr (.inl ⟨xs, hx1, rfl⟩), _, rfl, _, _, rfl, .inr (.inl ⟨ys, hy1, rfl⟩), rfl, _, rfl, ?_⟩
        rw [hl, decide_eq_true rfl]
        refine iteT ⟨_, rfl, _, rfl, fun Z => ⟨a, b, xs, ys, rfl, .inr ⟨hx1, hy1, fun D hD => ?_⟩⟩⟩
        refine lc_it (walk_zipT (xs := xs) (ys := ys) (n := xs.length) (by omega)) (fun i H' => Kp T [D] (upd H1 D (.lst [])) H' ∧ H' D = some (.lst ((List.replicate i true).map V.bl))) ⟨Kp.refl, upd_same⟩ (fun i H' hi p => ?_) (fun i v H' H'' hi p y => ?_) fun H' p => ?_
        · have k0 : Ke H1 H' := (((Kp.new hD).trans (p.1.mono (by simp)) : Kp T [D] H1 H').drop hD).ke0
          exact ⟨k0.tq hx1, k0.tq hy1⟩
        · obtain ⟨p1, p2⟩ := p
          have k0 : Ke H1 H' := (((Kp.new hD).trans (p1.mono (by simp)) : Kp T [D] H1 H').drop hD).ke0
          obtain ⟨T0, x, y, rfl, n0, rfl, ex, ey⟩ := y
          have k1 : Ke H1 (upd H' T0 (.tup [x, y])) := k0.trans (Ke.new n0)
          obtain ⟨d1, f1, r1⟩ := hx2.get ex
          obtain ⟨d2, f2, r2⟩ := hy2.get ey
          rw [f1] at f2
          cases f2
          have nD : T0 ≠ D := none_ne p2 n0
          refine ⟨T0, [x, y], rfl, SqT.of upd_same, rfl, _, _, rfl, _, _, rfl, rfl, rfl, ?_⟩
          refine ⟨_, rfl, _, rfl, x, y, d1, rfl, r1.ke k1, r2.ke k1, ?_, fun H3 K3 => ?_⟩
          · have q := lv_mem (List.mem_of_getElem? f1)
            simp only [lv] at hn
            omega
          · have hD3 : H3 D = some (.lst ((List.replicate i true).map V.bl)) := K3.lst (by simp) (by rw [upd_ne nD.symm]; exact p2)
            refine ⟨_, hD3, ?_, p1.trans (((Kp.new n0).trans (K3.mono (by simp))).trans (Kp.upd (by simp) hD3)), ?_⟩
            · rw [List.length_map, List.length_replicate]
              exact Nat.lt_of_lt_of_le hi (Z.st _ _ hx1)
            · rw [upd_same, List.replicate_succ', List.map_append]
              rfl
        · obtain ⟨p1, p2⟩ := p
          refine ⟨D, _, rfl, SqL.of p2, ?_⟩
          have e : (List.replicate (xs.length) true).all id = true := by simp
          show Q (.bl _) H'
          rw [e]
          exact k _ (K1.trans ((((Kp.new hD).trans (p1.mono (by simp)) : Kp T [D] H1 H').drop hD)))
      | dict ds =>
        cases hx with
        | dct hx1 hx2 =>
        cases hy with
        | dct hy1 hy2 =>
        rename_i a xs b ys
        have tx : TgOf K H1 (.ref a) .dct := .dK (.inl hx1)
        have ty : TgOf K H1 (.ref b) .dct := .dK (.inl hy1)
        refine iteF ⟨_, rfl, _, .dct, _, rfl, ty, _, rfl, iteT ⟨_, rfl, _, .dct, _, rfl, tx, _, rfl, iteT ⟨_, rfl, a, xs, rfl, hx1, fun H2 p ts e2 np nts pn hp pr => ?_⟩⟩⟩
        refine ⟨_, rfl, b, ys, rfl, e2 _ _ hy1, fun H3 q us e3 nq nus qn hq qr => ?_⟩
        have k2 : Kp T [] H1 H2 := Kp.same e2
        have k3 : Kp T [] H2 H3 := Kp.same e3
        refine ⟨.ref p, .ref q, .list (ds.map fun p => .tuple [p.1, p.2]), rfl, .lst (e3 _ _ hp) (rp_items (hx2.ke (k2.trans k3).ke0) (Paired.mapP pr fun t z h => e3 _ _ h)), .lst hq (rp_items (hy2.ke (k2.trans k3).ke0) qr), ?_, fun H4 K4 => k _ (K1.trans (k2.trans (k3.trans K4)))⟩
        have h2 := lvA_items ds
        simp only [lv] at hn ⊢
        omega
end
end Sky
set_option Elab.async false
set_option linter.all false
set_option maxRecDepth 100000
set_option maxHeartbeats 4000000
namespace Sky
open PySem PySem.Spec PyProof.Rows L2 LamX NdefX
theorem seqIndex_nat {k n : Nat} (h : k < n) : seqIndex? (k : Int) n = some k := (ixN_seq (n := n) (i := (k : Int)) (j := k) (by
  unfold ixN
  rw [if_pos (by omega), if_pos (by omega)]
  simp)).1
theorem perm_erase {α : Type} : ∀ {zs : List α} {j : Nat} (h : j < zs.length), (zs[j] :: zs.eraseIdx j).Perm zs
  | z :: zs, 0, _ => by simp
  | z :: zs, j + 1, h => by
    have h' : j < zs.length := by simpa using h
    have q := perm_erase h'
    show (zs[j] :: z :: zs.eraseIdx j).Perm (z :: zs)
    exact (List.Perm.swap _ _ _).trans (q.cons z)
theorem ixN_nat {k n : Nat} (h : k < n) : ixN n (k : Int) = some k := by
  unfold ixN
  rw [if_pos (by omega), if_pos (by omega)]
  simp
section
variable {P : Program} {w : World} {K : PySem.W.Frag} {mg : Str → Option Value} {base : Heap} {T : List NTab}

/-! ### _law_mixed -/
abbrev s_mixed : Stmt := top 21
abbrev n_mixed : List Str := ["stream", "things", "left", "found", "k"]
theorem sc_mixed : FnScope n_mixed ["stream", "things"] (defScope s_mixed) := ⟨rfl, rfl, rfl, by decide +kernel, rfl, by decide +kernel, by decide +kernel⟩
def sp_mixed (K : PySem.W.Frag) (T : List NTab) : Sp := fun vs H Q _ => ∃ (st sc a : Addr) (b : Nat) (xs : List V), vs = [.ref st, .ref a] ∧ StrAt b st sc H ∧ (SqL K (off [st, sc] H) a xs ∨ SqT K (off [st, sc] H) a xs) ∧ b + xs.length < 2 ^ 48 ∧ xs.length ≤ 1000000 ∧
  ∀ (p : Addr) (ys : List V) H', H p = none → ys.Perm xs → Kp T [st, sc] H H' → H' p = some (.lst ys) → p ≠ st → p ≠ sc → StrAt (b + xs.length) st sc H' → Q (.ref p) H'
theorem d_mixed (B : Blt mg) (Gd : DefOk P w K mg base 1 "_law_draw" (sp_draw K T)) (F : TopFn K mg "_law_mixed" s_mixed) : DefOk P w K mg base 2 "_law_mixed" (sp_mixed K T) := by
  refine F.ok sc_mixed (fun _ _ _ _ _ _ us hl => match us, hl with | [_, _], _ => rfl) (fun vs H Q E h => ?_) (fun f cdv A outer s H vs Q E hr h => ?_)
  · obtain ⟨st, sc, a, b, xs, rfl, _⟩ := h
    rfl
  · obtain ⟨st, sc, a, b, xs, rfl, hS, ha, hb, hx, k⟩ := h
    refine ⟨_, (pss_cons (ps_par (i := 2) (j := 3) rfl sc_mixed.nd rfl rfl (by decide) rfl rfl (pa_cons (e_list B (pa_cons (pv 1) pa_nil)) (pa_cons (pe_lst pa_nil) pa_nil)) rfl)
      (pss_cons (ps_for PassesOwn.never rfl (pi_range1 rfl B.range (pa_cons (e_len B (pa_cons (pv 2) pa_nil)) pa_nil)) (pg_name (i := 4) sc_mixed.nd rfl (Or.inl rfl)) (pss_one (ps_expr (pe_bm PySem.F.plainAttrs_list PySem.F.slot_list_append PySem.F.type_list_append mt_append (pv 3) (pa_cons (pe_bm PySem.F.plainAttrs_list PySem.F.slot_list_pop PySem.F.type_list_pop mt_popAt (pv 2) (pa_cons (pe_d Gd hr (pa_cons (pv 0) (pa_cons (e_len B (pa_cons (pv 2) pa_nil)) pa_nil))) pa_nil)) pa_nil)))))
      (pss_one (ps_ret (pv 3))))), ?_⟩
    have ha' : SqL K H a xs ∨ SqT K H a xs := ha.imp Ke.off.lq Ke.off.tq
    refine ⟨_, rfl, a, xs, rfl, ha', fun L hL => ⟨Nat.zero_le _, fun F hF => ⟨_, _, rfl, ?_⟩⟩⟩
    have nFL : F ≠ L := fun z => by
      rw [z, upd_same] at hF
      cases hF
    have hF0 : H F = none := by rw [upd_ne nFL] at hF; exact hF
    obtain ⟨⟨_, e1⟩, ⟨_, e2⟩⟩ := hS.some
    have n1 : L ≠ st := none_ne e1 hL
    have n2 : L ≠ sc := none_ne e2 hL
    have n3 : F ≠ st := none_ne e1 hF0
    have n4 : F ≠ sc := none_ne e2 hF0
    refine ⟨_, rfl, _, xs.length, rfl, .inl ⟨xs, SqL.of (by rw [upd_ne nFL.symm]; exact upd_same), rfl⟩, _, rfl, by omega, by omega, ?_⟩
    have eN : ((xs.length : Nat) : Int).toNat = xs.length := by omega
    rw [eN]
    refine for_range (lo := 0) (n := xs.length) (fun i σ H' => ∃ (zs fs : List V) (x : Option V), σ = [some (.ref st), some (.ref a), some (.ref L), some (.ref F), x] ∧ H' L = some (.lst zs) ∧ H' F = some (.lst fs) ∧ zs.length + i = xs.length ∧ (zs ++ fs).Perm xs ∧ Kp T [L, F, st, sc] H H' ∧ StrAt (b + i) st sc H')
      ⟨xs, [], none, rfl, by rw [upd_ne nFL.symm]; exact upd_same, upd_same, rfl, by simp, (Kp.new hL).trans (Kp.new hF), hS.kp ((Kp.new hL).trans (Kp.new hF) : Kp T [] H _) (by simp) (by simp)⟩ ?_ ?_
    · rintro i σ H' hi ⟨zs, fs, x, rfl, hz, hf, hl, hp, K1, S1⟩
      refine ⟨_, rfl, .inl ⟨rfl, _, SqL.of hf⟩, ?_⟩
      refine ⟨_, rfl, .inl ⟨rfl, _, SqL.of hz⟩, ?_⟩
      refine ⟨_, rfl, _, rfl, _, zs.length, rfl, .inl ⟨zs, SqL.of hz, rfl⟩, st, sc, _, b + i, rfl, S1, by omega, by omega, by omega, fun r H2 r0 r1 K2 S2 => ?_⟩
      obtain ⟨j, rfl⟩ : ∃ j : Nat, r = (j : Int) := ⟨r.toNat, by omega⟩
      have hj : j < zs.length := by omega
      have hz2 : H2 L = some (.lst zs) := K2.lst (by simp [n1, n2]) hz
      have hf2 : H2 F = some (.lst fs) := K2.lst (by simp [n3, n4]) hf
      refine ⟨L, zs, _, j, zs[j], rfl, rfl, hz2, by omega, by omega, seqIndex_nat hj, by simp [hj], ?_⟩
      have hf3 : upd H2 L (.lst (zs.eraseIdx j)) F = some (.lst fs) := by rw [upd_ne nFL]; exact hf2
      have K3 : Kp T [L, F, st, sc] H' (upd (upd H2 L (.lst (zs.eraseIdx j))) F (.lst (fs ++ [zs[j]]))) := (K2.mono (by simp)).trans ((Kp.upd (by simp) hz2).trans (Kp.upd (by simp) hf3))
      have hlen : zs.length + fs.length = xs.length := by
        have := hp.length_eq
        rw [List.length_append] at this
        exact this
      refine ⟨F, fs, zs[j], rfl, rfl, hf3, Nat.lt_of_le_of_lt (show fs.length ≤ 1000000 by omega) (by decide), ?_⟩
      refine ⟨zs.eraseIdx j, fs ++ [zs[j]], _, rfl, by rw [upd_ne nFL.symm]; exact upd_same, upd_same, ?_, ?_, K1.trans K3, ?_⟩
      · rw [List.length_eraseIdx_of_lt hj]
        omega
      · refine List.Perm.trans ?_ hp
        have q := perm_erase hj
        have q2 : (zs.eraseIdx j ++ (fs ++ [zs[j]])).Perm ((zs[j] :: zs.eraseIdx j) ++ fs) := by
          have : (zs.eraseIdx j ++ (fs ++ [zs[j]])) = (zs.eraseIdx j ++ fs) ++ [zs[j]] := by simp
          rw [this]
          exact List.perm_append_singleton _ _
        exact q2.trans (q.append_right fs)
      · have S3 := S2.kp ((Kp.upd (T := T) (l := [L]) (o := .lst (zs.eraseIdx j)) (by simp) hz2)) (by simp [n1.symm]) (by simp [n2.symm])
        exact S3.kp ((Kp.upd (T := T) (l := [F]) (by simp) hf3)) (by simp [n3.symm]) (by simp [n4.symm])
    · rintro σ H' ⟨zs, fs, x, rfl, hz, hf, hl, hp, K1, S1⟩
      have ez : zs = [] := List.length_eq_zero_iff.mp (by omega)
      subst ez
      exact ⟨_, rfl, k F fs H' hF0 (by simpa using hp) ((K1.drop hL).drop hF0) hf n3 n4 S1⟩
end
end Sky
set_option Elab.async false
set_option linter.all false
set_option maxRecDepth 100000
set_option maxHeartbeats 4000000
namespace Sky
open PySem PySem.Spec PyProof.Rows L2 LamX NdefX
/-! ### loosened data -/
mutual
inductive Lo : PyData → PyData → Prop
  | scl {d : PyData} : lvS d = true → Lo d d
  | ll {xs ys : List PyData} : LoA xs ys → Lo (.list xs) (.list ys)
  | lt {xs ys : List PyData} : LoA xs ys → Lo (.list xs) (.tuple ys)
  | tl {xs ys : List PyData} : LoA xs ys → Lo (.tuple xs) (.list ys)
  | tt {xs ys : List PyData} : LoA xs ys → Lo (.tuple xs) (.tuple ys)
inductive LoA : List PyData → List PyData → Prop
  | nil : LoA [] []
  | cons {x y : PyData} {xs ys : List PyData} : Lo x y → LoA xs ys → LoA (x :: xs) (y :: ys)
end
theorem LoA.snoc : ∀ {xs ys : List PyData} {x y : PyData}, LoA xs ys → Lo x y → LoA (xs ++ [x]) (ys ++ [y])
  | _, _, _, _, .nil, h => .cons h .nil
  | _, _, _, _, .cons a b, h => .cons a (b.snoc h)
mutual
/-- how many lists and tuples -/
def cnt : PyData → Nat
  | .list xs => cntA xs + 1
  | .tuple xs => cntA xs + 1
  | _ => 0
def cntA : List PyData → Nat
  | [] => 0
  | x :: xs => cnt x + cntA xs
end
theorem cntA_take : ∀ {ds : List PyData} {i : Nat} {d : PyData}, ds[i]? = some d → cntA (ds.take (i + 1)) = cntA (ds.take i) + cnt d
  | x :: xs, 0, d, h => by
    simp at h
    subst h
    simp [cntA]
  | x :: xs, i + 1, d, h => by
    have q := cntA_take (ds := xs) (i := i) (d := d) (by simpa using h)
    simp only [List.take_succ_cons, cntA]
    omega
theorem cntA_take_le : ∀ (ds : List PyData) (i : Nat), cntA (ds.take i) ≤ cntA ds
  | [], i => by simp
  | x :: xs, 0 => by simp [cntA]
  | x :: xs, i + 1 => by
    have q := cntA_take_le xs i
    simp only [List.take_succ_cons, cntA]
    omega
theorem noDA_mem : ∀ {ds : List PyData} {d : PyData}, noDA ds = true → d ∈ ds → noD d = true
  | x :: xs, d, h, m => by
    have h' : noD x = true ∧ noDA xs = true := by simpa [noDA] using h
    rcases List.mem_cons.mp m with rfl | m
    · exact h'.1
    · exact noDA_mem h'.2 m
section
variable {P : Program} {w : World} {K : PySem.W.Frag} {mg : Str → Option Value} {base : Heap} {T : List NTab}
/-! ### _law_loose -/
abbrev s_loose : Stmt := top 23
abbrev n_loose : List Str := ["stream", "thing", "some", "one"]
theorem sc_loose : FnScope n_loose ["stream", "thing"] (defScope s_loose) := ⟨rfl, rfl, rfl, by decide +kernel, rfl, by decide +kernel, by decide +kernel⟩
def sp_loose (K : PySem.W.Frag) (T : List NTab) (n : Nat) : Sp := fun vs H Q _ => ∃ (st sc : Addr) (x : V) (b : Nat) (d : PyData) (l : List Addr), vs = [.ref st, x] ∧ StrAt b st sc H ∧ Hid l st sc H ∧ Rp K (off l H) x d ∧ noD d = true ∧ smal d = true ∧ lv d < n ∧ b + cnt d < 2 ^ 48 ∧
  ∀ v d' as H', Lo d d' → Kp T [st, sc] H H' → StrAt (b + cnt d) st sc H' → Rp K (off l H') v d' → Ow K H' v (lv d) as → (∀ a ∈ as, H a = none) → Q v H'
theorem d_loose (B : Blt mg) (Gd : DefOk P w K mg base 1 "_law_draw" (sp_draw K T)) (F : TopFn K mg "_law_loose" s_loose) : ∀ n, DefOk P w K mg base (n + 1) "_law_loose" (sp_loose K T n)
  | 0 => (DefOk.zero F sc_loose (fun _ _ _ _ _ _ us hl => match us, hl with | [_, _], _ => rfl) fun vs H Q E h => by
    obtain ⟨_, _, _, _, _, _, _, _, _, _, _, _, h, _⟩ := h
    exact absurd h (Nat.not_lt_zero _)).mono (by decide)
  | n + 1 => by
    have G := d_loose B Gd F n
    refine F.ok sc_loose (fun _ _ _ _ _ _ us hl => match us, hl with | [_, _], _ => rfl) (fun vs H Q E h => ?_) (fun f cdv A outer s H vs Q E hr h => ?_)
    · obtain ⟨st, sc, x, b, d, l, rfl, _⟩ := h
      rfl
    · obtain ⟨st, sc, x, b, d, l, rfl, hS, hL, hx, hno, hsm, hn, hb, k⟩ := h
      refine ⟨_, (pss_cons (ps_if (pt_val (e_isiN B (pa_cons (pv 1) (pa_cons (pe_tup (pa_cons (e_ty "list" B.list) (pa_cons (e_ty "tuple" B.tuple) pa_nil))) pa_nil)))) (pss_cons (ps_setLc (i := 2) (own := [("one", 3)]) (g := gName 3) (tt := tYes) (by rfl) sc_loose.nd rfl rfl (sw_true rfl rfl rfl (by decide +kernel)) (pi_seq (pv 1)) (blkOk_by (N := n_loose) (sc := defScope s_loose) (by decide +kernel)) (fun _ _ _ _ _ => (pg_name (i := 3) sc_loose.nd rfl (Or.inl rfl))) (fun _ _ _ _ _ => pts_nil) (fun _ _ _ _ _ => (pe_d G hr (pa_cons (pv 0) (pa_cons (pv 3) pa_nil)) (Nat.le_refl _))))
      (pss_one (ps_ret (pe_ifExp (pt_cmpR op_eq (pe_d Gd hr (pa_cons (pv 0) (pa_cons pe_int pa_nil)) (Nat.succ_le_succ (Nat.zero_le _))) pe_int (nomark _)) (pv 2) (e_tuple B (pa_cons (pv 2) pa_nil)))))) pss_nil)
      (pss_one (ps_ret (pv 1)))), ?_⟩
      refine ⟨_, rfl, by show 2 ≤ sizeLine; decide, fun p hp => ?_⟩
      obtain ⟨⟨_, e1⟩, ⟨_, e2⟩⟩ := hS.some
      have np1 : p ≠ st := none_ne e1 hp
      have np2 : p ≠ sc := none_ne e2 hp
      have K1 : Kp T [st, sc] H (upd H p (.tup [.ty "list", .ty "tuple"])) := Kp.new hp
      have hx1 : Rp K (off l (upd H p (.tup [.ty "list", .ty "tuple"]))) x d := hx.ke (hL.ke K1)
      have hS1 := hS.kp (Kp.new (T := T) (l := []) (o := .tup [.ty "list", .ty "tuple"]) hp) (by simp) (by simp)
      have hL1 := hL.kp K1
      refine ⟨_, p, [.lst, .tup], _, rfl, upd_same, (hx1.ke Ke.off).tg, _, rfl, ?_⟩
      have fre : ∀ a, upd H p (.tup [.ty "list", .ty "tuple"]) a = none → H a = none := fun a => upd_none
      generalize upd H p (.tup [.ty "list", .ty "tuple"]) = H1 at K1 hx1 hS1 hL1 fre ⊢
      by_cases hd : lvS d = true
      · have e : ([Tg.lst, .tup].any (tgD d).isa) = false := by cases d <;> first | rfl | (simp [lvS] at hd)
        rw [e]
        refine iteF ⟨_, rfl, ?_⟩
        have ec : cnt d = 0 := by cases d <;> first | rfl | (simp [lvS] at hd) | simp [cnt]
        refine k x d [] H1 (.scl hd) K1 (by rw [ec]; exact hS1) hx1 (.leaf (hx.scl hd)) fun _ z => by cases z
      · obtain ⟨a, xs, t, ds, rfl, ed, hq, hA⟩ : ∃ a xs t ds, x = .ref a ∧ (d = .list ds ∨ d = .tuple ds) ∧ SqB t K (off l H1) a xs ∧ RpA K (off l H1) xs ds := by
          cases hx1 with
          | lst h1 h2 => exact ⟨_, _, true, _, rfl, .inl rfl, SqL.of h1, h2⟩
          | tup h1 h2 => exact ⟨_, _, false, _, rfl, .inr rfl, h1, h2⟩
          | dct h1 h2 => simp [noD] at hno
          | _ => exact (hd rfl).elim
        have row : ([Tg.lst, .tup].any (tgD d).isa) = true := by rcases ed with rfl | rfl <;> rfl
        rw [row]
        have hlv : lv d = lvA ds + 1 := by rcases ed with rfl | rfl <;> simp [lv]
        have hct : cnt d = cntA ds + 1 := by rcases ed with rfl | rfl <;> simp [cnt]
        have hnA : noDA ds = true := by rcases ed with rfl | rfl <;> simpa [noD] using hno
        have hlen := hA.length
        have hsA : ds.length ≤ 1000000 ∧ smalA ds = true := by rcases ed with rfl | rfl <;> simpa [smal] using hsm
        refine iteT ⟨_, rfl, a, xs, t, rfl, hq.ke Ke.off, fun J G' hsz W hG D hD => ?_⟩
        obtain ⟨⟨_, e1⟩, ⟨_, e2⟩⟩ := hS1.some
        have nD1 : D ≠ st := none_ne e1 hD
        have nD2 : D ≠ sc := none_ne e2 hD
        have nDl : D ∉ l := hL1.new hD
        have ke1 : ∀ H', Kp T (D :: [st, sc]) H1 H' → Ke (off l H1) (off l (off [D] H')) := fun H' k' => Ke.offN (k'.mono (by simp [hL1.st, hL1.sc])) hD
        refine lc_acc W T [st, sc] hD (by simp [nD1, nD2]) hsz (fun i acc H' => StrAt (b + cntA (ds.take i)) st sc H' ∧ ∃ ds' as, LoA (ds.take i) ds' ∧ RpA K (off l H') acc ds' ∧ OwA K H' acc (lvA ds) as ∧ ∀ a ∈ as, H1 a = none)
          ⟨by simpa [cntA] using hS1.off nD1 nD2, [], [], .nil, .nil, .nil, fun _ z => by cases z⟩ (fun H' k' => hG H' ((hq.ke (ke1 H' k')).ke (Ke.off.trans Ke.off))) (fun i y acc H' H'' Q' Qn hi hl k' hDa R' y' hk hn' => ?_) fun H' acc k' R' hDa hl => ?_
        · obtain ⟨S', ds', as, l1, l2, l3, l4⟩ := R'
          obtain ⟨rfl, ey⟩ := y'
          obtain ⟨dy, ed', ry⟩ := hA.get ey
          have S2 := S'.of_off
          have c1 := cntA_take ed'
          have c2 := cntA_take_le ds (i + 1)
          have L2 : Hid (D :: l) st sc H'' := (hL1.kp k').cons (by rw [hDa]; simp)
          refine ⟨rfl, ?_⟩
          refine ⟨_, rfl, _, rfl, st, sc, y, _, dy, D :: l, rfl, S2, L2, by have q := ry.ke (ke1 _ k'); rw [off_off] at q; exact q, noDA_mem hnA (List.mem_of_getElem? ed'), smalA_mem hsA.2 (List.mem_of_getElem? ed'), ?_, by omega, fun v d' bs H3 hlo k3 s3 r3 o3 n3 => hk v H3 k3 ?_⟩
          · have := lv_mem (List.mem_of_getElem? ed')
            omega
          · have D3 := k3.lst (by simp [nD1, nD2]) hDa
            have k4 : Ke (off l (off [D] H'')) (off l (off [D] H3)) := by
              rw [off_off, off_off]
              exact L2.ke k3
            have nb : D ∉ bs := fun z => by
              have q := n3 D z
              rw [hDa] at q
              cases q
            have nd : D ∉ as := fun z => l3.there D z (off_in (by simp))
            have dj : Dj as bs := fun a ha hb => l3.there a ha (by
              rw [off_ne (by simp; rintro rfl; exact nd ha)]
              exact n3 a hb)
            refine ⟨by rw [c1, ← Nat.add_assoc]; exact s3.off nD1 nD2, ds' ++ [d'], as ++ bs, ?_, (l2.ke k4).snoc ?_, OwA.snoc ?_ ?_ dj, fun c hc => ?_⟩
            · rw [List.take_add_one, ed']
              exact l1.snoc hlo
            · rw [off_off]
              exact r3
            · refine ((l3.ke Ke.off).kp k3 (fun a ha => ?_) fun a ha hm => ?_).hide D3 nd
              · simp at ha
                rcases ha with rfl | rfl
                · exact .inl S2.some.1
                · exact .inl S2.some.2
              · have q := l4 a ha
                simp at hm
                rcases hm with rfl | rfl
                · rw [e1] at q; cases q
                · rw [e2] at q; cases q
            · exact (o3.deep (lv_mem (List.mem_of_getElem? ed'))).hide D3 nb
            · rcases List.mem_append.mp hc with h | h
              · exact l4 c h
              · exact k'.n c (n3 c h)
        · obtain ⟨S', ds', as, l1, l2, l3, l4⟩ := R'
          rw [hlen, List.take_length] at S' l1
          have S2 := S'.of_off
          have nd : D ∉ as := fun z => l3.there D z (off_in (by simp))
          have KD : Kp T [st, sc] H1 H' := k'.drop hD
          rw [off_off] at l2
          refine ⟨_, rfl, st, sc, 2, _, rfl, S2, by decide, by decide, by omega, fun r H3 r0 r1 k3 s3 => ⟨rfl, _, rfl, ?_⟩⟩
          have D3 := k3.lst (by simp [nD1, nD2]) hDa
          have K3 : Kp T [st, sc] H H3 := K1.trans (KD.trans k3)
          have L3 := hL.kp K3
          have hA3 : OwA K H3 acc (lvA ds) as := (l3.ke Ke.off).kp k3 (fun a ha => by
            simp at ha
            rcases ha with rfl | rfl
            · exact .inl S2.some.1
            · exact .inl S2.some.2) fun a ha hm => by
              have q := l4 a ha
              simp at hm
              rcases hm with rfl | rfl
              · rw [e1] at q; cases q
              · rw [e2] at q; cases q
          have R3 : RpA K (off l H3) acc ds' := l2.ke (((hL1.kp k').cons (by rw [hDa]; simp) |>.ke k3).trans (Ke.sub fun x hx => List.mem_cons_of_mem _ hx))
          have hfr : ∀ a ∈ as, H a = none := fun a ha => fre a (l4 a ha)
          have eS : StrAt (b + cnt d) st sc H3 := by rw [hct, ← Nat.add_assoc]; exact s3
          rw [hlv] at k
          refine ite2 (fun _ => ?_) (fun _ => ?_)
          · refine ⟨_, rfl, k (.ref D) (.list ds') (D :: as) H3 ?_ K3 eS (.lst (off_some nDl D3) R3) (.lst D3 (by omega) hA3 nd) fun a ha => ?_⟩
            · rcases ed with rfl | rfl
              · exact .ll l1
              · exact .tl l1
            · rcases List.mem_cons.mp ha with rfl | ha
              · exact fre _ hD
              · exact hfr a ha
          · refine ⟨_, rfl, D, acc, rfl, .inl ⟨SqL.of D3, fun q hq => ?_⟩⟩
            have nql : q ∉ l := L3.new hq
            have kq : Ke (off l H3) (off l (upd H3 q (.tup acc))) := (Kp.new (T := T) (l := l) hq).ke
            refine k (.ref q) (.tuple ds') as _ ?_ (K3.trans (Kp.new hq)) (eS.kp (Kp.new (T := T) (l := []) hq) (by simp) (by simp)) (.tup (SqT.of (off_some nql upd_same)) (R3.ke kq)) (.tup (SqT.of upd_same) (hA3.ke (Ke.new hq))) hfr
            rcases ed with rfl | rfl
            · exact .lt l1
            · exact .tt l1
end
end Sky
set_option Elab.async false
set_option linter.all false
set_option maxRecDepth 100000
set_option maxHeartbeats 4000000
namespace Sky
open PySem PySem.Spec PyProof.Rows L2 LamX NdefX
section
variable {P : Program} {w : World} {K : PySem.W.Frag} {mg : Str → Option Value} {base : Heap} {T : List NTab}
/-! ### _law_copied (of data without dicts) -/
abbrev s_copied : Stmt := top 24
abbrev n_copied : List Str := ["thing", "some", "one", "key"]
theorem sc_copied : FnScope n_copied ["thing"] (defScope s_copied) := ⟨rfl, rfl, rfl, by decide +kernel, rfl, by decide +kernel, by decide +kernel⟩
def sp_copied (K : PySem.W.Frag) (T : List NTab) (n : Nat) : Sp := fun vs H Q _ => ∃ (x : V) (d : PyData) (l : List Addr), vs = [x] ∧ (∀ a ∈ l, H a ≠ none) ∧ Rp K (off l H) x d ∧ noD d = true ∧ smal d = true ∧ lv d < n ∧
  ∀ v as H', Kp T [] H H' → Rp K (off l H') v d → Ow K H' v (lv d) as → (∀ a ∈ as, H a = none) → Q v H'
theorem d_copied (B : Blt mg) (F : TopFn K mg "_law_copied" s_copied) : ∀ n, DefOk P w K mg base n "_law_copied" (sp_copied K T n)
  | 0 => DefOk.zero F sc_copied (fun _ _ _ _ _ _ us hl => match us, hl with | [_], _ => rfl) fun vs H Q E h => by
    obtain ⟨_, _, _, _, _, _, _, _, h, _⟩ := h
    exact absurd h (Nat.not_lt_zero _)
  | n + 1 => by
    have G := d_copied B F n
    refine F.ok sc_copied (fun _ _ _ _ _ _ us hl => match us, hl with | [_], _ => rfl) (fun vs H Q E h => ?_) (fun f cdv A outer s H vs Q E hr h => ?_)
    · obtain ⟨x, d, l, rfl, _⟩ := h
      rfl
    · obtain ⟨x, d, l, rfl, hL, hx, hno, hsm, hn, k⟩ := h
      refine ⟨_, (pss_cons (ps_if (pt_val (e_isiN B (pa_cons (pv 0) (pa_cons (pe_tup (pa_cons (e_ty "list" B.list) (pa_cons (e_ty "tuple" B.tuple) pa_nil))) pa_nil)))) (pss_cons (ps_setLc (i := 1) (own := [("one", 2)]) (g := gName 2) (tt := tYes) (by rfl) sc_copied.nd rfl rfl (sw_true rfl rfl rfl (by decide +kernel)) (pi_seq (pv 0)) (blkOk_by (N := n_copied) (sc := defScope s_copied) (by decide +kernel)) (fun _ _ _ _ _ => (pg_name (i := 2) sc_copied.nd rfl (Or.inl rfl))) (fun _ _ _ _ _ => pts_nil) (fun _ _ _ _ _ => (pe_d G hr (pa_cons (pv 2) pa_nil) (Nat.le_refl _))))
      (pss_one (ps_ret (pe_ifExp (pt_val (e_isi B (pa_cons (pv 0) (pa_cons (e_ty "list" B.list) pa_nil)))) (pv 1) (e_tuple B (pa_cons (pv 1) pa_nil)))))) pss_nil)
      (pss_cons (ps_if (pt_val (e_isi B (pa_cons (pv 0) (pa_cons (e_ty "dict" B.dict) pa_nil)))) pss_never pss_nil)
      (pss_one (ps_ret (pv 0))))), ?_⟩
      refine ⟨_, rfl, by show 2 ≤ sizeLine; decide, fun p hp => ?_⟩
      have K1 : Kp T [] H (upd H p (.tup [.ty "list", .ty "tuple"])) := Kp.new hp
      have hx1 : Rp K (off l (upd H p (.tup [.ty "list", .ty "tuple"]))) x d := hx.ke (K1.mono (by simp)).ke
      refine ⟨_, p, [.lst, .tup], _, rfl, upd_same, (hx1.ke Ke.off).tg, _, rfl, ?_⟩
      have fre : ∀ a, upd H p (.tup [.ty "list", .ty "tuple"]) a = none → H a = none := fun a => upd_none
      have hL1 : ∀ a ∈ l, upd H p (.tup [.ty "list", .ty "tuple"]) a ≠ none := fun a ha e => hL a ha (fre a e)
      generalize upd H p (.tup [.ty "list", .ty "tuple"]) = H1 at K1 hx1 hL1 fre ⊢
      by_cases hd : lvS d = true
      · have e : ([Tg.lst, .tup].any (tgD d).isa) = false := by cases d <;> first | rfl | (simp [lvS] at hd)
        have e' : ((tgD d).isa .dct) = false := by cases d <;> first | rfl | (simp [lvS] at hd)
        rw [e]
        refine iteF ⟨_, rfl, _, .dct, _, rfl, (hx1.ke Ke.off).tg, _, rfl, ?_⟩
        rw [e']
        exact iteF ⟨_, rfl, k x [] H1 K1 hx1 (.leaf (hx.scl hd)) fun _ z => by cases z⟩
      · obtain ⟨a, xs, t, ds, rfl, ed, hq, hA⟩ : ∃ a xs t ds, x = .ref a ∧ d = (if t then .list ds else .tuple ds) ∧ SqB t K (off l H1) a xs ∧ RpA K (off l H1) xs ds := by
          cases hx1 with
          | lst h1 h2 => exact ⟨_, _, true, _, rfl, rfl, SqL.of h1, h2⟩
          | tup h1 h2 => exact ⟨_, _, false, _, rfl, rfl, h1, h2⟩
          | dct h1 h2 => simp [noD] at hno
          | _ => exact (hd rfl).elim
        have row : ([Tg.lst, .tup].any (tgD d).isa) = true := by subst ed; cases t <;> rfl
        rw [row]
        have hlv : lv d = lvA ds + 1 := by subst ed; cases t <;> simp [lv]
        have hnA : noDA ds = true := by subst ed; cases t <;> simpa [noD] using hno
        have hlen := hA.length
        have hsA : ds.length ≤ 1000000 ∧ smalA ds = true := by subst ed; cases t <;> simpa [smal] using hsm
        refine iteT ⟨_, rfl, a, xs, t, rfl, hq.ke Ke.off, fun J G' hsz W hG D hD => ?_⟩
        have nDl : D ∉ l := fun z => hL1 D z hD
        have ke1 : ∀ H', Kp T (D :: []) H1 H' → Ke (off l H1) (off l (off [D] H')) := fun H' k' => Ke.offN (k'.mono (by simp)) hD
        refine lc_acc W T [] hD (by simp) hsz (fun i acc H' => ∃ as, RpA K (off l H') acc (ds.take i) ∧ OwA K H' acc (lvA ds) as ∧ ∀ a ∈ as, H1 a = none)
          ⟨[], .nil, .nil, fun _ z => by cases z⟩ (fun H' k' => hG H' ((hq.ke (ke1 H' k')).ke (Ke.off.trans Ke.off))) (fun i y acc H' H'' Q' Qn hi hl k' hDa R' y' hk hn' => ?_) fun H' acc k' R' hDa hl => ?_
        · obtain ⟨as, l2, l3, l4⟩ := R'
          obtain ⟨rfl, ey⟩ := y'
          obtain ⟨dy, ed', ry⟩ := hA.get ey
          have L2 : ∀ a ∈ D :: l, H'' a ≠ none := fun a ha => by
            rcases List.mem_cons.mp ha with rfl | ha
            · rw [hDa]; simp
            · exact fun e => hL1 a ha (k'.n a e)
          refine ⟨rfl, ?_⟩
          refine ⟨_, rfl, y, dy, D :: l, rfl, L2, by have q := ry.ke (ke1 _ k'); rw [off_off] at q; exact q, noDA_mem hnA (List.mem_of_getElem? ed'), smalA_mem hsA.2 (List.mem_of_getElem? ed'), ?_, fun v bs H3 k3 r3 o3 n3 => hk v H3 k3 ?_⟩
          · have := lv_mem (List.mem_of_getElem? ed')
            omega
          · have D3 := k3.lst (by simp) hDa
            have k4 : Ke (off l (off [D] H'')) (off l (off [D] H3)) := by
              rw [off_off, off_off]
              exact (k3.mono (by simp)).ke
            have nb : D ∉ bs := fun z => by
              have q := n3 D z
              rw [hDa] at q
              cases q
            have nd : D ∉ as := fun z => l3.there D z (off_in (by simp))
            have dj : Dj as bs := fun a ha hb => l3.there a ha (by
              rw [off_ne (by simp; rintro rfl; exact nd ha)]
              exact n3 a hb)
            refine ⟨as ++ bs, ?_, OwA.snoc ?_ ?_ dj, fun c hc => ?_⟩
            · rw [List.take_add_one, ed']
              exact (l2.ke k4).snoc (by rw [off_off]; exact r3)
            · exact ((l3.ke Ke.off).kp k3 (fun a ha => by cases ha) fun a ha hm => by cases hm).hide D3 nd
            · exact (o3.deep (lv_mem (List.mem_of_getElem? ed'))).hide D3 nb
            · rcases List.mem_append.mp hc with h | h
              · exact l4 c h
              · exact k'.n c (n3 c h)
        · obtain ⟨as, l2, l3, l4⟩ := R'
          rw [hlen, List.take_length] at l2
          have nd : D ∉ as := fun z => l3.there D z (off_in (by simp))
          have KD : Kp T [] H1 H' := k'.drop hD
          rw [off_off] at l2
          have K3 : Kp T [] H H' := K1.trans KD
          have hA3 : OwA K H' acc (lvA ds) as := l3.ke Ke.off
          have R3 : RpA K (off l H') acc ds := l2.ke (Ke.sub fun x hx => List.mem_cons_of_mem _ hx)
          have hfr : ∀ a ∈ as, H a = none := fun a ha => fre a (l4 a ha)
          have tg : TgOf K H' (.ref a) (if t then .lst else .tup) := ((hq.ke (ke1 _ k')).ke (Ke.off.trans Ke.off)).tg
          rw [hlv] at k
          cases t with
          | true =>
            subst ed
            refine ⟨_, rfl, _, .lst, _, rfl, tg, _, rfl, iteT ⟨_, rfl, k (.ref D) (D :: as) H' K3 (.lst (off_some nDl hDa) R3) (.lst hDa (by omega) hA3 nd) fun a ha => ?_⟩⟩
            rcases List.mem_cons.mp ha with rfl | ha
            · exact fre _ hD
            · exact hfr a ha
          | false =>
            subst ed
            refine ⟨_, rfl, _, .lst, _, rfl, tg, _, rfl, iteF ⟨_, rfl, D, acc, rfl, .inl ⟨SqL.of hDa, fun q hq => ?_⟩⟩⟩
            have nql : q ∉ l := fun z => hL q z (K3.n q hq)
            have kq : Ke (off l H') (off l (upd H' q (.tup acc))) := (Kp.new (T := T) (l := l) hq).ke
            exact k (.ref q) as _ (K3.trans (Kp.new hq)) (.tup (SqT.of (off_some nql upd_same)) (R3.ke kq)) (.tup (SqT.of upd_same) (hA3.ke (Ke.new hq))) hfr
end
end Sky
set_option Elab.async false
set_option linter.all false
set_option maxRecDepth 100000
set_option maxHeartbeats 4000000
namespace Sky
open PySem PySem.Spec PyProof.Rows L2 LamX NdefX
/-- lists stay lists -/
def KiS (H H' : Hp) : Prop := ∀ a xs, H a = some (.lst xs) → ∃ ys, H' a = some (.lst ys)
theorem KiS.refl {H : Hp} : KiS H H := fun _ xs e => ⟨xs, e⟩
theorem KiS.trans {H H1 H2 : Hp} (a : KiS H H1) (b : KiS H1 H2) : KiS H H2 := fun c xs e => by
  obtain ⟨ys, h⟩ := a c xs e
  exact b c ys h
theorem KiS.kp {T : List NTab} {H H' : Hp} (k : Kp T [] H H') : KiS H H' := fun _ xs e => ⟨xs, k.lst (by simp) e⟩
theorem KiS.upd {H : Hp} {p : Addr} {ys : List V} : KiS H (L2.upd H p (.lst ys)) := fun c xs e => by
  by_cases h : c = p
  · subst h
    exact ⟨ys, upd_same⟩
  · exact ⟨xs, by rw [upd_ne h]; exact e⟩
theorem KiS.updD {H : Hp} {p : Addr} {kvs : List (Key × V)} {o : HO} (h : H p = some (.dK kvs)) : KiS H (L2.upd H p o) := fun c xs e => ⟨xs, by
  rw [upd_ne (fun z => by rw [z, h] at e; cases e)]
  exact e⟩
/-- a loop that spoils one part behind another -/
structure Lp (K : PySem.W.Frag) (T : List NTab) (xs : List V) (n : Nat) (as : List Addr) (H1 : Hp) (i : Nat) (H' : Hp) : Prop where
  ex : ∃ as1 as2, as = as1 ++ as2 ∧ Kp T as1 H1 H' ∧ OwA K H' (xs.drop i) n as2 ∧ Dj as1 as2 ∧ KiS H1 H'
theorem Lp.start {K : PySem.W.Frag} {T : List NTab} {xs : List V} {n : Nat} {as : List Addr} {H1 : Hp} (h : OwA K H1 xs n as) : Lp K T xs n as H1 0 H1 := ⟨[], as, rfl, Kp.refl, by simpa using h, (fun _ z => by cases z), KiS.refl⟩
theorem Lp.kp {K : PySem.W.Frag} {T : List NTab} {xs : List V} {n : Nat} {as : List Addr} {H1 H' : Hp} {i : Nat} (h : Lp K T xs n as H1 i H') : Kp T as H1 H' := by
  obtain ⟨as1, as2, rfl, k, _⟩ := h.ex
  exact k.mono fun x hx => List.mem_append_left _ hx
theorem Lp.ki {K : PySem.W.Frag} {T : List NTab} {xs : List V} {n : Nat} {as : List Addr} {H1 H' : Hp} {i : Nat} (h : Lp K T xs n as H1 i H') : KiS H1 H' := by
  obtain ⟨as1, as2, rfl, k, _, _, ki⟩ := h.ex
  exact ki
theorem Lp.step {K : PySem.W.Frag} {T : List NTab} {xs : List V} {n : Nat} {as : List Addr} {H1 H' : Hp} {i : Nat} {y : V} (h : Lp K T xs n as H1 i H') (e : xs[i]? = some y) : ∃ bs, Ow K H' y n bs ∧ ∀ H2, Kp T bs H' H2 → KiS H' H2 → Lp K T xs n as H1 (i + 1) H2 := by
  obtain ⟨as1, as2, rfl, k, o, d, ki⟩ := h.ex
  obtain ⟨hi, hy⟩ := List.getElem?_eq_some_iff.mp e
  have ed : xs.drop i = y :: xs.drop (i + 1) := by rw [List.drop_eq_getElem_cons hi, hy]
  rw [ed] at o
  cases o with
  | cons o1 o2 dj =>
    rename_i b1 b2
    refine ⟨b1, o1, fun H2 k2 ki2 => ⟨as1 ++ b1, b2, by rw [List.append_assoc], ?_, o2.kp k2 (fun a ha => o1.kind a ha) dj.symm, ?_, ki.trans ki2⟩⟩
    · exact (k.mono fun x hx => List.mem_append_left _ hx).trans (k2.mono fun x hx => List.mem_append_right _ hx)
    · intro a ha hb
      rcases List.mem_append.mp ha with ha | ha
      · exact d a ha (List.mem_append_right _ hb)
      · exact dj a ha hb
section
variable {P : Program} {w : World} {K : PySem.W.Frag} {mg : Str → Option Value} {base : Heap} {T : List NTab}
/-! ### _law_spoilt -/
abbrev s_spoilt : Stmt := top 25
abbrev n_spoilt : List Str := ["thing", "key", "part"]
theorem sc_spoilt : FnScope n_spoilt ["thing"] (defScope s_spoilt) := ⟨rfl, rfl, rfl, by decide +kernel, rfl, by decide +kernel, by decide +kernel⟩
def sp_spoilt (K : PySem.W.Frag) (T : List NTab) (n : Nat) : Sp := fun vs H Q _ => ∃ (x : V) (m : Nat) (as : List Addr), vs = [x] ∧ Ow K H x m as ∧ m < n ∧ ∀ H', Kp T as H H' → KiS H H' → Q .non H'
theorem d_spoilt (B : Blt mg) (F : TopFn K mg "_law_spoilt" s_spoilt) : ∀ n, DefOk P w K mg base n "_law_spoilt" (sp_spoilt K T n)
  | 0 => DefOk.zero F sc_spoilt (fun _ _ _ _ _ _ us hl => match us, hl with | [_], _ => rfl) fun vs H Q E h => by
    obtain ⟨_, _, _, _, _, h, _⟩ := h
    exact absurd h (Nat.not_lt_zero _)
  | n + 1 => by
    have G := d_spoilt B F n
    refine F.ok sc_spoilt (fun _ _ _ _ _ _ us hl => match us, hl with | [_], _ => rfl) (fun vs H Q E h => ?_) (fun f cdv A outer s H vs Q E hr h => ?_)
    · obtain ⟨x, m, as, rfl, _⟩ := h
      rfl
    · obtain ⟨x, m, as, rfl, ho, hn, k⟩ := h
      refine ⟨_, (pss_cons (ps_if (pt_val (e_isi B (pa_cons (pv 0) (pa_cons (e_ty "dict" B.dict) pa_nil)))) (pss_cons (ps_for PassesOwn.never rfl (pi_seq (e_listX B (pa_cons (PE.sz (pv 0)) pa_nil))) (pg_name (i := 1) sc_spoilt.nd rfl (Or.inl rfl)) (pss_one (ps_expr (pe_d G hr (pa_cons (pe_dget (hu_of hr) (pv 0) (pv 1) (fun _ _ => rfl)) pa_nil) (Nat.le_refl _)))))
      (pss_one (ps_dput (hu_of hr) (pv 0) pe_str pe_int rfl))) pss_nil)
      (pss_cons (ps_if (pt_val (e_isiN B (pa_cons (pv 0) (pa_cons (pe_tup (pa_cons (e_ty "list" B.list) (pa_cons (e_ty "tuple" B.tuple) pa_nil))) pa_nil)))) (pss_one (ps_for PassesOwn.never rfl (pi_seq (pv 0)) (pg_name (i := 2) sc_spoilt.nd rfl (Or.inl rfl)) (pss_one (ps_expr (pe_d G hr (pa_cons (pv 2) pa_nil) (Nat.le_refl _)))))) pss_nil)
      (pss_one (ps_if (pt_val (e_isi B (pa_cons (pv 0) (pa_cons (e_ty "list" B.list) pa_nil)))) (pss_one (ps_expr (pe_bm PySem.F.plainAttrs_list PySem.F.slot_list_append PySem.F.type_list_append mt_append (pv 0) (pa_cons pe_str pa_nil)))) pss_nil)))), ?_⟩
      cases ho with
      | leaf hl =>
        obtain ⟨g, tg, -⟩ := (Ow.leaf (K := K) (H := H) (n := 0) hl).tg
        have g1 : g.isa .dct = false := by cases tg <;> first | rfl | (simp [sclV] at hl)
        have g2 : [Tg.lst, .tup].any g.isa = false := by cases tg <;> first | rfl | (simp [sclV] at hl)
        have g3 : g.isa .lst = false := by cases tg <;> first | rfl | (simp [sclV] at hl)
        refine ⟨_, rfl, _, .dct, g, rfl, tg, _, rfl, ?_⟩
        rw [g1]
        refine iteF ⟨_, rfl, by show 2 ≤ sizeLine; decide, fun p hp => ?_⟩
        have tg' : TgOf K (upd H p (.tup [.ty "list", .ty "tuple"])) x g := by
          cases tg <;> first | exact .non | exact .bl _ | exact .int _ | exact .str _ | (simp [sclV] at hl)
        refine ⟨_, p, [.lst, .tup], g, rfl, upd_same, tg', _, rfl, ?_⟩
        rw [g2]
        refine iteF ⟨_, rfl, _, .lst, g, rfl, tg', _, rfl, ?_⟩
        rw [g3]
        exact iteF (k _ (Kp.new hp) (KiS.kp (T := T) (Kp.new hp)))
      | lst h1 hz h2 h3 =>
        rename_i a xs m as
        refine ⟨_, rfl, _, .dct, .lst, rfl, .lst (SqL.of h1), _, rfl, iteF ⟨_, rfl, by show 2 ≤ sizeLine; decide, fun p hp => ?_⟩⟩
        have e1 : upd H p (.tup [.ty "list", .ty "tuple"]) a = some (.lst xs) := by rw [upd_ne (ne_of_none h1 hp)]; exact h1
        have K1 : Kp T [] H (upd H p (.tup [.ty "list", .ty "tuple"])) := Kp.new hp
        have o1 := h2.ke K1.ke0
        refine ⟨_, p, [.lst, .tup], .lst, rfl, upd_same, .lst (SqL.of e1), _, rfl, ?_⟩
        generalize upd H p (.tup [.ty "list", .ty "tuple"]) = H1 at e1 K1 o1 ⊢
        refine iteT ⟨_, rfl, a, xs, true, rfl, SqL.of e1, fun J G' hsz W hG => ?_⟩
        refine for_it W (fun i σ H' => (∃ v w, σ = [some (.ref a), v, w]) ∧ Lp K T xs m as H1 i H') ⟨⟨_, _, rfl⟩, Lp.start o1⟩ (fun i σ H' _ p => hG H' (SqL.of (p.2.kp.lst h3 e1))) (fun i y σ H' H'' hi p yy => ?_) fun σ H' p => ?_
        · obtain ⟨⟨v, u, rfl⟩, lp⟩ := p
          obtain ⟨rfl, ey⟩ := yy
          obtain ⟨bs, oy, st⟩ := lp.step ey
          exact ⟨_, rfl, y, m, bs, rfl, oy, by omega, fun H2 k2 ki2 => ⟨⟨_, _, rfl⟩, st H2 k2 ki2⟩⟩
        · obtain ⟨⟨v, u, rfl⟩, lp⟩ := p
          have e2 := lp.kp.lst h3 e1
          refine ⟨_, rfl, _, .lst, .lst, rfl, .lst (SqL.of e2), _, rfl, iteT ⟨_, rfl, .inl ⟨rfl, _, SqL.of e2⟩, a, xs, _, rfl, rfl, e2, Nat.lt_of_le_of_lt hz (by decide), ?_⟩⟩
          exact k _ (K1.mono (by simp) |>.trans ((lp.kp.mono fun x hx => List.mem_cons_of_mem _ hx).trans (Kp.upd (by simp) e2))) ((KiS.kp K1).trans (lp.ki.trans KiS.upd))
      | tup h1 h2 =>
        rename_i a xs m
        refine ⟨_, rfl, _, .dct, .tup, rfl, .tup h1, _, rfl, iteF ⟨_, rfl, by show 2 ≤ sizeLine; decide, fun p hp => ?_⟩⟩
        have K1 : Kp T [] H (upd H p (.tup [.ty "list", .ty "tuple"])) := Kp.new hp
        have e1 := K1.ke0.tq h1
        have o1 := h2.ke K1.ke0
        refine ⟨_, p, [.lst, .tup], .tup, rfl, upd_same, .tup e1, _, rfl, ?_⟩
        generalize upd H p (.tup [.ty "list", .ty "tuple"]) = H1 at e1 K1 o1 ⊢
        have st1 : ∀ i H', Lp K T xs m as H1 i H' → SqT K H' a xs := fun i H' lp => by
          obtain ⟨as1, as2, rfl, kk, _⟩ := lp.ex
          have kd := kp_keep kk fun c hc => o1.kind c (List.mem_append_left _ hc)
          rcases e1 with (e1 | ⟨o, e1⟩) | e1
          · exact .inl (.inl (kd _ _ e1 (fun _ z => by cases z) (fun _ z => by cases z) (fun _ z => by cases z)))
          · exact .inl (.inr ⟨o, kd _ _ e1 (fun _ z => by cases z) (fun _ z => by cases z) (fun _ z => by cases z)⟩)
          · exact .inr e1
        refine iteT ⟨_, rfl, a, xs, false, rfl, e1, fun J G' hsz W hG => ?_⟩
        refine for_it W (fun i σ H' => (∃ v w, σ = [some (.ref a), v, w]) ∧ Lp K T xs m as H1 i H') ⟨⟨_, _, rfl⟩, Lp.start o1⟩ (fun i σ H' _ p => hG H' (st1 _ _ p.2)) (fun i y σ H' H'' hi p yy => ?_) fun σ H' p => ?_
        · obtain ⟨⟨v, u, rfl⟩, lp⟩ := p
          obtain ⟨rfl, ey⟩ := yy
          obtain ⟨bs, oy, st⟩ := lp.step ey
          exact ⟨_, rfl, y, m, bs, rfl, oy, by omega, fun H2 k2 ki2 => ⟨⟨_, _, rfl⟩, st H2 k2 ki2⟩⟩
        · obtain ⟨⟨v, u, rfl⟩, lp⟩ := p
          refine ⟨_, rfl, _, .lst, .tup, rfl, .tup (st1 _ _ lp), _, rfl, iteF ?_⟩
          exact k _ (K1.mono (by simp) |>.trans lp.kp) ((KiS.kp K1).trans lp.ki)
      | dct h1 hz h2 h3 =>
        rename_i a kvs m as
        refine ⟨_, rfl, _, .dct, .dct, rfl, .dK (.inl h1), _, rfl, iteT ⟨_, rfl, fun Z => .inr ⟨a, kvs, rfl, h1, fun q hq => ?_⟩⟩⟩
        have nd := (Z.sd _ _ h1).2
        have K1 : Kp T [] H (upd H q (.lst (kvs.map fun kv => kV kv.1))) := Kp.new hq
        have e1 : upd H q (.lst (kvs.map fun kv => kV kv.1)) a = some (.dK kvs) := by rw [upd_ne (ne_of_none h1 hq)]; exact h1
        have eq1 : upd H q (.lst (kvs.map fun kv => kV kv.1)) q = some (.lst (kvs.map fun kv => kV kv.1)) := upd_same
        have o1 := h2.ke K1.ke0
        have nq : q ∉ as := fun z => h2.there q z hq
        generalize upd H q (.lst (kvs.map fun kv => kV kv.1)) = H1 at e1 eq1 K1 o1 ⊢
        refine ⟨q, _, true, rfl, SqL.of eq1, fun J G' hsz W hG => ?_⟩
        refine for_it W (fun i σ H' => (∃ v w, σ = [some (.ref a), v, w]) ∧ Lp K T (kvs.map (·.2)) m as H1 i H') ⟨⟨_, _, rfl⟩, Lp.start o1⟩ (fun i σ H' _ p => hG H' (SqL.of (p.2.kp.lst nq eq1))) (fun i y σ H' H'' hi p yy => ?_) fun σ H' p => ?_
        · obtain ⟨⟨v, u, rfl⟩, lp⟩ := p
          obtain ⟨rfl, ey⟩ := yy
          rw [List.getElem?_map] at ey
          obtain ⟨⟨ky, vy⟩, e3, rfl⟩ := Option.map_eq_some_iff.mp ey
          obtain ⟨bs, oy, st⟩ := lp.step (y := vy) (by rw [List.getElem?_map, e3]; rfl)
          have e2 := lp.kp.dK h3 e1
          refine ⟨_, rfl, _, rfl, a, vy, rfl, ?_, vy, m, bs, rfl, oy, by omega, fun H2 k2 ki2 => ⟨⟨_, _, rfl⟩, st H2 k2 ki2⟩⟩
          rw [← valV_at nd e3]
          exact DGet.k e2
        · obtain ⟨⟨v, u, rfl⟩, lp⟩ := p
          have e2 := lp.kp.dK h3 e1
          refine ⟨_, rfl, a, _, rfl, DPut.k (k := Sum.inr "late") e2 (Nat.lt_of_le_of_lt hz (by decide)), ?_⟩
          have K2 : Kp T (a :: as) H (upd H' a (.dK (putK kvs (Sum.inr "late") (.int 1)))) := K1.mono (by simp) |>.trans ((lp.kp.mono fun x hx => List.mem_cons_of_mem _ hx).trans (Kp.updD (by simp) e2))
          have ki2 : KiS H (upd H' a (.dK (putK kvs (Sum.inr "late") (.int 1)))) := (KiS.kp K1).trans (lp.ki.trans (KiS.updD e2))
          have e3 : upd H' a (.dK (putK kvs (Sum.inr "late") (.int 1))) a = some (.dK (putK kvs (Sum.inr "late") (.int 1))) := upd_same
          generalize upd H' a (.dK (putK kvs (Sum.inr "late") (.int 1))) = H2 at K2 ki2 e3 ⊢
          refine ⟨_, rfl, by show 2 ≤ sizeLine; decide, fun p hp => ?_⟩
          have e4 : upd H2 p (.tup [.ty "list", .ty "tuple"]) a = some (.dK (putK kvs (Sum.inr "late") (.int 1))) := by rw [upd_ne (ne_of_none e3 hp)]; exact e3
          exact ⟨_, p, [.lst, .tup], .dct, rfl, upd_same, .dK (.inl e4), _, rfl, iteF ⟨_, rfl, _, .lst, .dct, rfl, .dK (.inl e4), _, rfl, iteF (k _ (K2.trans (Kp.new hp)) (ki2.trans (KiS.kp (T := T) (Kp.new hp))))⟩⟩
end
end Sky
set_option Elab.async false
set_option linter.all false
set_option maxRecDepth 100000
set_option maxHeartbeats 4000000
namespace Sky
open PySem PySem.Spec PyProof.Rows L2 LamX NdefX
theorem noBad {α : Type} {f : α → List Key} {l : List α} (h : (l.map f).Nodup) : ∀ n, n < l.length → ¬ badAt (fun _ => true) (fun i => (l[i]?.map f).getD []) n := fun n hn b => by
  have q := okTo_of h n hn
  rcases b.2 with z | z
  · cases z
  · exact q.2 z
theorem sizeS {z : Str} (h : nmS z = true) : z.length ≤ sizeLine := by
  unfold nmS at h
  simp only [Bool.and_eq_true, decide_eq_true_eq] at h
  exact Nat.le_trans (Nat.le_of_lt h.2.1) (by decide)
theorem paired_ke {K : PySem.W.Frag} {H H' : Hp} {xs : List V} {sss : List (List PyData)} (h : Paired (RpS K H) xs sss) (k : Ke H H') : Paired (RpS K H') xs sss := by
  induction h with
  | nil => exact .nil
  | cons h _ ih => exact .cons (h.ke k) ih
theorem noDA_map {α : Type} {f : α → PyData} (l : List α) (h : ∀ a, noD (f a) = true) : noDA (l.map f) = true := by
  induction l with
  | nil => simp [noDA]
  | cons a r ih => rw [List.map_cons, noDA, h, ih]; rfl
theorem rk_nodup {rooms : List (Str × Int)} (h : (rooms.map (·.1)).Nodup) : (rooms.map fun p => [(Sum.inr p.1 : Key)]).Nodup := by
  have q := nodup_inj (f := fun z : Str => [(Sum.inr z : Key)]) (fun a b e => by cases e; rfl) h
  rw [List.map_map] at q
  exact q
theorem rpA_str_inv {K : PySem.W.Frag} {H : Hp} : ∀ {vs : List V} {zs : List Str}, RpA K H vs (zs.map PyData.str) → vs = zs.map V.str
  | _, [], h => by cases h; rfl
  | _, z :: r, h => by
    rw [List.map_cons] at h
    cases h with
    | cons h1 h2 =>
      cases h1
      rw [rpA_str_inv h2]
      rfl
theorem lk_nodup {lanes : List (Str × Str × Int)} (h : (lanes.map fun p => (p.1, p.2.1)).Nodup) : (lanes.map fun p => [(Sum.inr p.1 : Key), Sum.inr p.2.1]).Nodup := by
  have q := nodup_inj (f := fun z : Str × Str => [(Sum.inr z.1 : Key), Sum.inr z.2]) (fun a b e => by cases a; cases b; simp at e; rw [e.1, e.2]) h
  rw [List.map_map] at q
  exact q
def outL (lanes : List (Str × Str × Int)) (c : Str) : List PyData := (lanes.filter fun p => decide (p.1 = c)).map fun p => .tuple [.str p.2.1, .int p.2.2]
theorem outL_yes {lanes : List (Str × Str × Int)} {i : Nat} {p : Str × Str × Int} (e : lanes[i]? = some p) : outL (lanes.take (i + 1)) p.1 = outL (lanes.take i) p.1 ++ [.tuple [.str p.2.1, .int p.2.2]] := by
  unfold outL
  rw [List.take_add_one, e, List.filter_append, List.map_append]
  simp
theorem outL_no {lanes : List (Str × Str × Int)} {i : Nat} {p : Str × Str × Int} {c : Str} (e : lanes[i]? = some p) (h : p.1 ≠ c) : outL (lanes.take (i + 1)) c = outL (lanes.take i) c := by
  unfold outL
  rw [List.take_add_one, e, List.filter_append]
  simp [h]
theorem paired_len {α β : Type} {R : α → β → Prop} {xs : List α} {ys : List β} (h : Paired R xs ys) : xs.length = ys.length := Paired.length h
mutual
/-- flat tuples are seen though lists and dicts are hidden -/
theorem Rp.vis {K : PySem.W.Frag} {H : Hp} {m : List Addr} (hm : LD m H) : ∀ {v : V} {d : PyData}, Rp K H v d → tupO d = true → Rp K (off m H) v d
  | _, _, .non, _ => .non
  | _, _, .bl b, _ => .bl b
  | _, _, .int i, _ => .int i
  | _, _, .str x, _ => .str x
  | _, _, .lst _ _, h => by simp [tupO] at h
  | _, _, .dct _ _, h => by simp [tupO] at h
  | _, _, .tup h1 h2, h => by
    refine .tup ?_ (h2.vis hm (by simpa [tupO] using h))
    have no : ∀ {b o}, H b = some o → (∀ xs, o ≠ .lst xs) → (∀ xs, o ≠ .dK xs) → b ∉ m := fun e n1 n2 z => by
      rcases hm _ z with ⟨_, q⟩ | ⟨_, q⟩ <;> rw [q] at e <;> cases e
      · exact n1 _ rfl
      · exact n2 _ rfl
    rcases h1 with (h1 | ⟨o, h1⟩) | h1
    · exact .inl (.inl (off_some (no h1 (fun _ z => by cases z) (fun _ z => by cases z)) h1))
    · exact .inl (.inr ⟨o, off_some (no h1 (fun _ z => by cases z) (fun _ z => by cases z)) h1⟩)
    · exact .inr h1
theorem RpA.vis {K : PySem.W.Frag} {H : Hp} {m : List Addr} (hm : LD m H) : ∀ {v : List V} {d : List PyData}, RpA K H v d → tupOA d = true → RpA K (off m H) v d
  | _, _, .nil, _ => .nil
  | _, _, .cons (d := d) (ds := ds) h t, e => by
    have e' : tupO d = true ∧ tupOA ds = true := by simpa [tupOA] using e
    exact .cons (h.vis hm e'.1) (t.vis hm e'.2)
end
theorem tupO_lnD (p : Str × Str × Int) : tupO (lnD p) = true := by simp [lnD, tupO, tupOA]
section
variable {P : Program} {w : World} {K : PySem.W.Frag} {mg : Str → Option Value} {base : Heap} {T : List NTab} {C : Addr}
theorem free1 : ∀ y ∈ (lamS lm1).names, y.2 = .free → (defScope s_init).names.lookup y.1 = some .cell := by decide +kernel
theorem free2 : ∀ y ∈ (lamS lm2).names, y.2 = .free → (defScope s_init).names.lookup y.1 = some .cell := by decide +kernel
theorem free3 : ∀ y ∈ (lamS lm3).names, y.2 = .free → (defScope s_init).names.lookup y.1 = some .cell := by decide +kernel
def qInit : Str := (envOfC "Space.__init__" (defScope s_init) 0 0 .none).qual ++ "<lambda>"
theorem vals_app : ∀ {vs ds : List V} {us ws : List Value}, Vals vs us → Vals ds ws → Vals (vs ++ ds) (us ++ ws)
  | _, _, _, _, .nil, h => h
  | _, _, _, _, .cons h t, k => .cons h (vals_app t k)
theorem vals_rev : ∀ {vs : List V} {us : List Value}, Vals vs us → Vals vs.reverse us.reverse
  | _, _, .nil => .nil
  | _, _, .cons h t => by
    rw [List.reverse_cons, List.reverse_cons]
    exact vals_app (vals_rev t) (.cons h .nil)
theorem d_init0 (B : Blt mg) (cs : ClsS K mg C) {c PT g : Addr} {nm : Nat → Nat → Str} (TB : TabB base mg c PT) (hm : (PT, nm) ∈ T) (hu : ∀ p ∈ T, p.1 = PT → p.2 = nm) (hn : ∀ i j, nm i j = qInit)
    (G1 : DefOk P w K mg base 3 "is_room" (sp_is_room K T)) (G2 : DefOk P w K mg base 1 "is_name" (sp_is_name K T)) (G3 : DefOk P w K mg base 1 "itself" sp_itself) (Gf : DefOkS P w K mg base 5 "first_bad" (sp_first_bad P w K mg base T 3))
    (Gl : MetOk P w K mg base 3 C "is_lane" (sp_is_lane K T C)) (bm : BMeth K C "is_lane" g) (F : InitFn K mg "Space" C "Space.__init__" s_init c) :
    ∃ (f : Addr) (fd : FuncData), FnOk P w K mg base CX0 6 f fd ["self", "rooms", "homes", "lanes"] (sp_init K T C) ∧ Mk K C f ∧ mg "Space" = some (.ref C) ∧ FunC K "__init__" "Space.__init__" s_init f fd c := by
  obtain ⟨f, fd, F, M, hmg⟩ := F.ex
  obtain ⟨fR, fdR, psR, FR, hmR, kpR, bR⟩ := id G1.ex
  obtain ⟨fI, fdI, psI, FI, hmI, kpI, bI⟩ := id G3.ex
  refine ⟨f, fd, F.ok sc_init (fun vs H Q E h => ?_) (fun A outer s H vs Q E hr h => ?_), M, hmg, F⟩
  · obtain ⟨_, _, _, _, _, _, _, _, _, _, _, _, _, _, rfl, _⟩ := h
    rfl
  · obtain ⟨x, dx, ra, rxs, rt, ha, hxs, ht, la, lxs, lt, rooms, homes, lanes, rfl, hx, hT, q1, p1, q2, rfl, q3, p3, ok, k⟩ := h
    obtain ⟨l, el⟩ : ∃ l : List Addr, l = [] := ⟨[], rfl⟩
    rw [← el] at q1 p1 q2 q3 p3
    have xl : x ∉ l := by rw [el]; simp
    have hl : ∀ b ∈ l, H b ≠ none := by rw [el]; intro b z; cases z
    clear el
    refine ⟨_, (pss_cons (ps_set (i := 4) sc_init.nd rfl (Or.inl rfl) (pe_dS Gf hr (pa_cons (pv 1) (pa_cons (pe_glob (v := .ref fR) rfl hmR rfl) (pa_cons (pe_lam TB rfl hm hu (hn _ _) (fun y hy e => .inl (free1 y hy e))) pa_nil)))))
      (pss_cons (ps_if (pt_cmpR op_notN (pv 4) pe_non (nomark _)) pss_never pss_nil)
      (pss_cons (ps_fld (pv 0) (pe_dc (own := [("corridor", 8), ("room", 9)]) (g := gTup K 2 (gCons (gName 8) (gCons (gName 9) gNil))) (tt := tYes) (by rfl) sc_init.nd
          (pi_seq (e_sorted B (pa_cons (pe_lc (own := [("pair", 11)]) (g := gName 11) (tt := tYes) (te := tCB (rTupOf K) (tCons (tVar 11) tNil)) (by rfl) sc_init.nd (pi_seq (pv 1)) (blkOk_by (N := n_init) (sc := defScope s_init) (by decide +kernel)) (fun _ _ _ _ _ => (pg_name (i := 11) sc_init.nd rfl (Or.inl rfl))) (fun _ _ _ _ _ => pts_nil) (fun _ _ _ _ _ => (e_tuple B (pa_cons (pv 11) pa_nil)))) pa_nil) hr.units))
          (blkOk_by (N := n_init) (sc := defScope s_init) (by decide +kernel))
          (fun _ _ _ _ _ => (pg_tup rfl (pgs_cons (pg_name (i := 8) sc_init.nd rfl (Or.inl rfl)) (pgs_cons (pg_name (i := 9) sc_init.nd rfl (Or.inl rfl)) pgs_nil)))) (fun _ _ _ _ _ => pts_nil) (fun _ _ _ _ _ => (pv 8)) (fun _ _ _ _ _ => (pv 9))) rfl)
      (pss_cons (ps_set (i := 4) sc_init.nd rfl (Or.inl rfl) (pe_dS Gf hr (pa_cons (pv 2) (pa_cons (pe_lam TB rfl hm hu (hn _ _) (fun y hy e => .inl (free2 y hy e))) (pa_cons (pe_glob (v := .ref fI) rfl hmI rfl) pa_nil)))))
      (pss_cons (ps_if (pt_cmpR op_notN (pv 4) pe_non (nomark _)) pss_never pss_nil)
      (pss_cons (ps_fld (pv 0) (e_sorted B (pa_cons (pv 2) pa_nil) hr.units) rfl)
      (pss_cons (ps_set (i := 4) sc_init.nd rfl (Or.inl rfl) (pe_dS Gf hr (pa_cons (pv 3) (pa_cons (pe_bound bm cs.cl (pv 0)) (pa_cons (pe_lam TB rfl hm hu (hn _ _) (fun y hy e => .inl (free3 y hy e))) pa_nil)))))
      (pss_cons (ps_if (pt_cmpR op_notN (pv 4) pe_non (nomark _)) pss_never pss_nil)
      (pss_cons (ps_fld (pv 0) (e_sorted B (pa_cons (pe_lc (own := [("lane", 10)]) (g := gName 10) (tt := tYes) (te := tCB (rTupOf K) (tCons (tVar 10) tNil)) (by rfl) sc_init.nd (pi_seq (pv 3)) (blkOk_by (N := n_init) (sc := defScope s_init) (by decide +kernel)) (fun _ _ _ _ _ => (pg_name (i := 10) sc_init.nd rfl (Or.inl rfl))) (fun _ _ _ _ _ => pts_nil) (fun _ _ _ _ _ => (e_tuple B (pa_cons (pv 10) pa_nil)))) pa_nil) hr.units) rfl)
      (pss_cons (ps_fld (pv 0) (pe_lock (pe_dc (own := [("corridor", 8)]) (g := gName 8) (tt := tYes) (by rfl) sc_init.nd (pi_keys (pe_fld (pv 0) rfl)) (blkOk_by (N := n_init) (sc := defScope s_init) (by decide +kernel)) (fun _ _ _ _ _ => (pg_name (i := 8) sc_init.nd rfl (Or.inl rfl))) (fun _ _ _ _ _ => pts_nil) (fun _ _ _ _ _ => (pv 8)) (fun _ _ _ _ _ => (pe_lst pa_nil)))) rfl)
      (pss_one (ps_for PassesOwn.never rfl (pi_seq (pe_fld (pv 0) rfl)) (pg_tup rfl (pgs_cons (pg_name (i := 5) sc_init.nd rfl (Or.inl rfl)) (pgs_cons (pg_name (i := 6) sc_init.nd rfl (Or.inl rfl)) (pgs_cons (pg_name (i := 7) sc_init.nd rfl (Or.inl rfl)) pgs_nil)))) (pss_one (ps_expr (pe_bm PySem.F.plainAttrs_list PySem.F.slot_list_append PySem.F.type_list_append mt_append (pe_dget (hu_of hr) (pe_fld (pv 0) rfl) (pv 5) (fun _ _ => rfl)) (pa_cons (pe_tup (pa_cons (pv 6) (pa_cons (pv 7) pa_nil))) pa_nil)))))))))))))))), ?_⟩
    have hl' : ∀ b ∈ x :: l, H b ≠ none := fun b hb => by
      rcases List.mem_cons.mp hb with rfl | hb
      · rw [hx]; simp
      · exact hl b hb
    -- first_bad(rooms, is_room, lambda pair: pair[0])
    refine ⟨_, rfl, hT, fun fL c' H1 k1 fL0 fL1 c1 pins s1 I1 => ?_⟩
    have ke1 : Ke (off (x :: l) H) (off (x :: l) H1) := (k1.mono (by simp)).ke
    refine .inr ⟨ra, rxs, rt, .ref fR, .ref fL, fun _ => true, false, fun i => (rooms[i]?.map fun p => [(Sum.inr p.1 : Key)]).getD [], rfl, (q1.ke ke1).ke Ke.off, ?_, ?_, fun _ H2 k2 => ?_, fun n hn hb => ?_⟩
    · refine (cb_def G1 hmR).imp fun vs H2 Q h => ?_
      obtain ⟨i, y, rfl, ey, k2, hQ⟩ := h
      obtain ⟨ss, es, hs⟩ := paired_get p1 ey
      obtain ⟨p, ep, rfl⟩ := List.mem_map.mp (List.mem_of_getElem? es)
      obtain ⟨d, rp, hd⟩ := hs
      have es' : seqD d = some (rmA p) := by rcases hd with rfl | rfl <;> rfl
      have e1 : roomD d = true := by
        unfold roomD
        rw [es']
        show (nmS p.1 && decide (0 < p.2)) = true
        rw [(ok.nm p ep).1, decide_eq_true (ok.nm p ep).2]
        rfl
      refine ⟨y, d, rfl, ((rp.ke ke1).ke Ke.off).ke k2.ke0, fun ds e z hz => ?_, fun H3 k3 => by rw [e1]; exact hQ H3 k3⟩
      rw [es'] at e
      cases e
      intro q eq
      rcases List.mem_cons.mp hz with rfl | hz
      · cases eq
        exact sizeS (ok.nm p ep).1
      · rcases List.mem_cons.mp hz with rfl | hz
        · cases eq
        · cases hz
    · refine (cb_lam (lam1_ok (K := K) _ _ c' fL) fL1 c1 (cellsAt_of I1 free1 (fr := []) (ws := []) (fun y hy => by cases hy) rfl (fun i y v e => by simp at e)) (cells_off I1 (fun _ => rfl) free1)).mono (by decide) |>.imp fun vs H2 Q h => ?_
      obtain ⟨i, y, rfl, ey, -, k2, hQ⟩ := h
      obtain ⟨ss, es, hs⟩ := paired_get p1 ey
      have es2 := es
      rw [List.getElem?_map] at es2
      obtain ⟨p, ep, rfl⟩ := Option.map_eq_some_iff.mp es2
      obtain ⟨a, xs, t, rfl, hq, hA⟩ := (((hs.ke ke1).ke Ke.off).ke k2.ke0).sq
      cases hA with
      | cons r1 hA =>
        cases r1
        refine ⟨a, _, t, _, rfl, hq, rfl, hQ _ _ Kp.refl ?_⟩
        show KAt false H2 _ ((rooms[i]?.map fun p => [(Sum.inr p.1 : Key)]).getD [])
        rw [ep]
        exact ⟨Sum.inr p.1, rfl, rfl⟩
    · have kA : Kp T [] H H2 := k1.trans k2
      clear pins I1 k1 k2 ke1 fL0 fL1 c1
      have tA : TabsN T H2 := kA.t hT
      refine ⟨_, rfl, rfl, _, rfl, iteF ?_⟩
      have ke2 : Ke (off (x :: l) H) (off (x :: l) H2) := (kA.mono (by simp)).ke
      have hl2 : ∀ b ∈ x :: l, H2 b ≠ none := fun b hb e => hl' b hb (kA.n b e)
      have hx2 : H2 x = some (.ins C dx []) := kA.ins (by simp) hx
      refine rd_next ?_
      dsimp only
      refine rd_seq (rd_fld (rd_dc (rd_iseq (rd_cb (rd_cons (lc_tup T (x :: l) hl2 (fun R r => ⟨_, rfl, r⟩) (q1.ke ke2) (paired_ke p1 ke2) fun D zs H3 hD k3 hDz hz => ?_))))))
      have eD : (rooms.map rmA).map PyData.tuple = rooms.map rmD := by rw [List.map_map]; rfl
      rw [eD] at hz
      refine ⟨D, zs, rooms.map rmD, rfl, .inl ⟨true, SqL.of hDz⟩, (hz.ke Ke.off).dp (noDA_map rooms fun _ => rfl), PySem.W.AllAlike.of (fun _ _ => by simp [rmD, PySem.W.alike, PySem.W.alikeAll]), PySem.W.Sortable.tuples (fun b => ⟨_, _, rfl⟩), fun d hd => ?_, fun p hp => ?_⟩
      · obtain ⟨r, -, rfl⟩ := List.mem_map.mp hd
        simp [rmD, PyData.depth, PyData.depthAll]
      have hlz : zs.length = (rooms.map rmD).length := hz.length
      have hzs : RpA K (off (x :: l) H3) (srtV zs (rooms.map rmD)) ((srtBy rmD rooms).map rmD) := by
        rw [← srtD_map]
        exact rpA_srt hz
      have hzp : RpA K (L2.upd H3 p (.lst (srtV zs (rooms.map rmD)))) (srtV zs (rooms.map rmD)) ((srtBy rmD rooms).map rmD) := (hzs.ke Ke.off).ke (Ke.new hp)
      have k4 : Kp T [] H (L2.upd H3 p (.lst (srtV zs (rooms.map rmD)))) := (kA.trans k3).trans (Kp.new hp)
      have hp4 : L2.upd H3 p (.lst (srtV zs (rooms.map rmD))) p = some (.lst (srtV zs (rooms.map rmD))) := upd_same
      generalize L2.upd H3 p (.lst (srtV zs (rooms.map rmD))) = H4 at hzp k4 hp4 ⊢
      generalize srtV zs (rooms.map rmD) = ws at hzp hp4 ⊢
      have ndr : ((rmK (srtBy rmD rooms)).map (·.1)).Nodup := rmK_nodup (((srtBy_perm rmD rooms).map _).nodup_iff.mpr ok.nd)
      refine ⟨p, ws, true, rfl, SqL.of hp4, fun J Gj hsz W hG D2 hD2 => ?_⟩
      have np : p ≠ D2 := fun z => by rw [z, hD2] at hp4; cases hp4
      refine dc_acc W T [] hD2 (by simp) hsz (fun i acc _ => acc = (rmK (srtBy rmD rooms)).take i) rfl (fun H' k' => hG H' (SqL.of (k'.lst (by simp [np]) hp4))) (fun i y acc H' H'' Q' Qn hi hn k' hDa R y' hk _ => ?_) fun H5 acc k' R hDa _ => ?_
      · obtain ⟨rfl, ey⟩ := y'
        obtain ⟨d, ed, rd⟩ := hzp.get ey
        rw [List.getElem?_map] at ed
        obtain ⟨r, er, rfl⟩ := Option.map_eq_some_iff.mp ed
        have rd' := rd.ke ((k'.drop hD2).ke0)
        cases rd' with
        | tup hq hA =>
          cases hA with
          | cons r1 hA =>
            cases hA with
            | cons r2 hA =>
              cases hA
              cases r1
              cases r2
              refine ⟨_, _, rfl, hq, rfl, _, _, rfl, _, _, rfl, rfl, rfl, _, rfl, _, rfl, hk (Sum.inr r.1) (.int r.2) _ Kp.refl ?_⟩
              rw [R]
              exact putK_snoc ndr (by unfold rmK; rw [List.getElem?_map, er]; rfl)
      · have ewl : ws.length = (rmK (srtBy rmD rooms)).length := by
          rw [hzp.length, List.length_map]
          unfold rmK
          rw [List.length_map]
        rw [ewl, List.take_length] at R
        subst R
        have k5 : Kp T [] H H5 := k4.trans (k'.drop hD2)
        have hD0 : H D2 = none := k4.n D2 hD2
        have hx5 : H5 x = some (.ins C dx []) := k5.ins (by simp) hx
        refine ⟨_, rfl, x, C, dx, [], rfl, hx5, cs.cl, cs.nR, by show 0 < 1000; decide, ?_⟩
        have nxD : x ≠ D2 := fun z => by rw [z, hD0] at hx; cases hx
        have nlD : D2 ∉ l := fun z => hl D2 z hD0
        have k6 : Kp T [x] H (L2.upd H5 x (.ins C dx (putF "own_rooms" (.ref D2) []))) := (k5.mono (by simp)).trans (Kp.updI (by simp) hx5)
        have hx6 : L2.upd H5 x (.ins C dx (putF "own_rooms" (.ref D2) [])) x = some (.ins C dx (putF "own_rooms" (.ref D2) [])) := upd_same
        have hD6 : L2.upd H5 x (.ins C dx (putF "own_rooms" (.ref D2) [])) D2 = some (.dK (rmK (srtBy rmD rooms))) := by rw [upd_ne nxD.symm]; exact hDa
        show (tSeq _ _) _ _ (L2.upd H5 x (.ins C dx (putF "own_rooms" (.ref D2) [])))
        generalize L2.upd H5 x (.ins C dx (putF "own_rooms" (.ref D2) [])) = H6 at k6 hx6 hD6 ⊢
        clear hx5 hDa k'
        have tb6 : TabsN T H6 := k6.t hT
        have nrm : ∀ z, z ∈ (srtBy rmD rooms).map (·.1) ↔ z ∈ rooms.map (·.1) := fun z => ((srtBy_perm rmD rooms).map _).mem_iff
        have ke6 : Ke (off (x :: l) H) (off (x :: l) H6) := (k6.mono (by simp)).ke
        have lk1 : List.lookup ("own_rooms" : Str) (putF "own_rooms" (V.ref D2) []) = some (V.ref D2) := by rw [lookup_putF, if_pos rfl]
        -- first_bad(homes, lambda thing: .., itself)
        refine ⟨_, rfl, tb6, fun fL c' H7 k7 fL0 fL1 c1 pins s1 I1 => ?_⟩
        refine .inr ⟨ha, homes.map V.str, ht, .ref fL, .ref fI, fun _ => true, false, fun i => (homes[i]?.map fun z => [(Sum.inr z : Key)]).getD [], rfl, (q2.ke (ke6.trans (k7.mono (by simp)).ke)).ke Ke.off, ?_, ?_, fun _ H8 k8 => ?_, fun n hn hb => ?_⟩
        · refine (cb_lam (lam2_ok cs G2 _ _ c' fL) fL1 c1 (cellsAt_of I1 free2 (fr := ["self"]) (ws := [some (.ref x)]) (by decide +kernel) rfl (fun i y v e1 e2 => ?_)) (cells_off I1 (fun _ => rfl) free2)).mono (by decide) |>.imp fun vs H2 Q h => ?_
          · match i with
            | 0 =>
              cases e1
              cases e2
              exact ⟨0, rfl, rfl⟩
            | i + 1 => simp at e1
          · obtain ⟨i, y, rfl, ey, k8, hQ⟩ := h
            rw [List.getElem?_map] at ey
            obtain ⟨z, ez, rfl⟩ := Option.map_eq_some_iff.mp ey
            have hz := ok.hm z (List.mem_of_getElem? ez)
            have k78 := k7.trans k8
            refine ⟨x, _, .str z, _, rfl, rfl, ⟨D2, ⟨dx, _, k78.ins (by simp) hx6, lk1⟩, k78.dK (by simp) hD6⟩, .str z, fun q e => by cases e; exact sizeS hz.1, fun H9 k9 => ?_⟩
            have e : homeD (srtBy rmD rooms) (.str z) = true := by
              show (nmS z && !decide (z ∈ (srtBy rmD rooms).map (·.1))) = true
              rw [hz.1, decide_eq_false (fun q => hz.2 ((nrm z).mp q))]
              rfl
            rw [e]
            exact hQ H9 k9
        · refine ((cb_def G3 hmI).mono (by decide)).imp fun vs H2 Q h => ?_
          obtain ⟨i, y, rfl, ey, -, k2, hQ⟩ := h
          refine ⟨y, rfl, hQ y H2 Kp.refl ?_⟩
          rw [List.getElem?_map] at ey
          obtain ⟨z, ez, rfl⟩ := Option.map_eq_some_iff.mp ey
          show KAt false H2 _ ((homes[i]?.map fun z => [(Sum.inr z : Key)]).getD [])
          rw [ez]
          exact ⟨Sum.inr z, rfl, rfl⟩
        · -- self.own_homes = sorted(homes)
          have k68 := k7.trans k8
          have hx8 := k68.ins (by simp) hx6
          have hD8 := k68.dK (by simp) hD6
          have k08 : Kp T [x] H H8 := k6.trans (k68.mono (by simp))
          have tb8 : TabsN T H8 := k08.t hT
          clear k68 k7 k8 fL0 fL1 c1 I1 hx6 hD6 ke6 tb6 k6
          have ke8 : Ke (off (x :: l) H) (off (x :: l) H8) := (k08.mono (by simp)).ke
          refine ⟨_, rfl, rfl, _, rfl, iteF ?_⟩
          refine rd_next ?_
          dsimp only
          refine rd_seq (rd_fld (rd_cb (rd_cons ⟨_, rfl, ha, homes.map V.str, homes.map PyData.str, rfl, .inl ⟨ht, (q2.ke ke8).ke Ke.off⟩, (rpA_strs homes).dp (noDA_map homes fun _ => rfl), PySem.W.AllAlike.of (fun _ _ => by simp [PySem.W.alike]), PySem.W.Sortable.others (fun b => ⟨(fun z => by cases z), (fun _ z => by cases z)⟩), fun d hd => ?_, fun p8 hp8 => ?_⟩)))
          · obtain ⟨r, -, rfl⟩ := List.mem_map.mp hd
            simp [PyData.depth]
          have eS : srtV (homes.map V.str) (homes.map PyData.str) = (srtBy PyData.str homes).map V.str := by
            have q := rpA_srt (rpA_strs (K := K) (H := H8) homes)
            rw [srtD_map] at q
            exact rpA_str_inv q
          rw [eS]
          have nxp : x ≠ p8 := ne_of_none hx8 hp8
          have nDp : D2 ≠ p8 := ne_of_none hD8 hp8
          have hp0 : H p8 = none := k08.n p8 hp8
          have nlp : p8 ∉ l := fun z => hl p8 z hp0
          have hx9 : L2.upd H8 p8 (.lst ((srtBy PyData.str homes).map V.str)) x = some (.ins C dx (putF "own_rooms" (.ref D2) [])) := by rw [upd_ne nxp]; exact hx8
          refine ⟨_, rfl, x, C, dx, _, rfl, hx9, cs.cl, cs.nH, by show 1 < 1000; decide, ?_⟩
          have k9 : Kp T [x] H (L2.upd (L2.upd H8 p8 (.lst ((srtBy PyData.str homes).map V.str))) x (.ins C dx (putF "own_homes" (.ref p8) (putF "own_rooms" (.ref D2) [])))) := (k08.trans (Kp.new hp8)).trans (Kp.updI (by simp) hx9)
          have hx10 : (L2.upd (L2.upd H8 p8 (.lst ((srtBy PyData.str homes).map V.str))) x (.ins C dx (putF "own_homes" (.ref p8) (putF "own_rooms" (.ref D2) [])))) x = some (.ins C dx (putF "own_homes" (.ref p8) (putF "own_rooms" (.ref D2) []))) := upd_same
          have hD10 : (L2.upd (L2.upd H8 p8 (.lst ((srtBy PyData.str homes).map V.str))) x (.ins C dx (putF "own_homes" (.ref p8) (putF "own_rooms" (.ref D2) [])))) D2 = some (.dK (rmK (srtBy rmD rooms))) := by rw [upd_ne nxD.symm, upd_ne nDp]; exact hD8
          have hp10 : (L2.upd (L2.upd H8 p8 (.lst ((srtBy PyData.str homes).map V.str))) x (.ins C dx (putF "own_homes" (.ref p8) (putF "own_rooms" (.ref D2) [])))) p8 = some (.lst ((srtBy PyData.str homes).map V.str)) := by rw [upd_ne nxp.symm, upd_same]
          show (tSeq _ _) _ _ (L2.upd (L2.upd H8 p8 (.lst ((srtBy PyData.str homes).map V.str))) x (.ins C dx (putF "own_homes" (.ref p8) (putF "own_rooms" (.ref D2) []))))
          generalize (L2.upd (L2.upd H8 p8 (.lst ((srtBy PyData.str homes).map V.str))) x (.ins C dx (putF "own_homes" (.ref p8) (putF "own_rooms" (.ref D2) [])))) = H10 at k9 hx10 hD10 hp10 ⊢
          clear hx8 hD8 k08 tb8 ke8 hx9 hp8
          have tb10 : TabsN T H10 := k9.t hT
          have ke10 : Ke (off (x :: l) H) (off (x :: l) H10) := (k9.mono (by simp)).ke
          have nst : ∀ z, z ∈ srtBy PyData.str homes ↔ z ∈ homes := fun z => (srtBy_perm PyData.str homes).mem_iff
          have n1 : ¬ ("own_rooms" : Str) = "own_homes" := by decide +kernel
          have lk2 : List.lookup ("own_rooms" : Str) (putF "own_homes" (V.ref p8) (putF "own_rooms" (V.ref D2) [])) = some (V.ref D2) := by rw [lookup_putF, if_neg n1]; exact lk1
          have lk3 : List.lookup ("own_homes" : Str) (putF "own_homes" (V.ref p8) (putF "own_rooms" (V.ref D2) [])) = some (V.ref p8) := by rw [lookup_putF, if_pos rfl]
          have lk4 : List.lookup ("is_lane" : Str) (putF "own_homes" (V.ref p8) (putF "own_rooms" (V.ref D2) [])) = none := by rw [lookup_putF, if_neg (by decide +kernel), lookup_putF, if_neg (by decide +kernel)]; rfl
          have lkN : ∀ y : Str, y ≠ "own_rooms" → y ≠ "own_homes" → List.lookup y (putF "own_homes" (V.ref p8) (putF "own_rooms" (V.ref D2) [])) = none := fun y h1 h2 => by rw [lookup_putF, if_neg h2, lookup_putF, if_neg h1]; rfl
          have len2 : (putF "own_homes" (V.ref p8) (putF "own_rooms" (V.ref D2) [])).length ≤ 2 := Nat.le_trans (putF_len _ _ _) (Nat.succ_le_succ (putF_len _ _ _))
          generalize putF "own_homes" (V.ref p8) (putF "own_rooms" (V.ref D2) []) = fs2 at hx10 lk2 lk3 lk4 lkN len2 ⊢
          -- first_bad(lanes, self.is_lane, lambda lane: ..)
          obtain ⟨gm, fdm, psm, Fm, hmm, bmm⟩ := Gl.ex
          have egm : gm = g := by
            have q := hmm.at_.symm.trans bm.mt.at_
            cases q
            rfl
          subst egm
          refine ⟨_, rfl, _, rfl, x, dx, fs2, rfl, hx10, lk4, fun pb hpb => ⟨tb10.ext (fun b o e => by rw [upd_ne (ne_of_none e hpb)]; exact e), fun fL c' H11 k11 fL0 fL1 c1 pins s1 I1 => ?_⟩⟩
          have kpb : Kp T [] H10 (L2.upd H10 pb (.met gm x)) := Kp.new hpb
          have hpb11 : H11 pb = some (.met gm x) := k11.k pb _ (by simp) upd_same fun _ z => by cases z
          have k11' := kpb.trans k11
          refine .inr ⟨la, lxs, lt, .ref pb, .ref fL, fun _ => true, true, fun i => (lanes[i]?.map fun p => [(Sum.inr p.1 : Key), Sum.inr p.2.1]).getD [], rfl, (q3.ke (ke10.trans (k11'.mono (by simp)).ke)).ke Ke.off, ?_, ?_, fun _ H12 k12 => ?_, fun n hn hb => ?_⟩
          · refine (cb_met Fm bm.fi bmm hpb11).imp fun vs H2 Q h => ?_
            obtain ⟨i, y, rfl, ey, k12, hQ⟩ := h
            obtain ⟨ss, es, d, rp, hd⟩ := paired_get p3 ey
            rw [List.getElem?_map] at es
            obtain ⟨p, ep, rfl⟩ := Option.map_eq_some_iff.mp es
            have hp := ok.ln p (List.mem_of_getElem? ep)
            have es' : seqD d = some (lnA p) := by rcases hd with rfl | rfl <;> rfl
            have k1012 := k11'.trans k12
            refine ⟨x, y, d, _, _, rfl, ⟨D2, ⟨dx, _, k1012.ins (by simp) hx10, lk2⟩, k1012.dK (by simp) hD10⟩, ⟨p8, ⟨dx, _, k1012.ins (by simp) hx10, lk3⟩, k1012.lst (by simp) hp10⟩, ((rp.ke ke10).ke Ke.off).ke k1012.ke0, fun H13 k13 => ?_⟩
            have e : laneD (srtBy rmD rooms) (srtBy PyData.str homes) d = true := by
              unfold laneD
              rw [es']
              show (decide (p.1 ∈ (srtBy rmD rooms).map (·.1)) && (!decide (p.2.1 = p.1) && ((decide (p.2.1 ∈ (srtBy rmD rooms).map (·.1)) || decide (p.2.1 ∈ srtBy PyData.str homes)) && decide (0 < p.2.2)))) = true
              rw [decide_eq_true ((nrm _).mpr hp.1), decide_eq_false hp.2.2.1, decide_eq_true hp.2.2.2]
              rcases hp.2.1 with q | q
              · rw [decide_eq_true ((nrm _).mpr q)]; rfl
              · rw [decide_eq_true ((nst _).mpr q)]; simp
            rw [e]
            exact hQ H13 k13
          · refine (cb_lam (lam3_ok (K := K) _ _ c' fL) fL1 c1 (cellsAt_of I1 free3 (fr := []) (ws := []) (fun y hy => by cases hy) rfl (fun i y v e => by simp at e)) (cells_off I1 (fun _ => rfl) free3)).mono (by decide) |>.imp fun vs H2 Q h => ?_
            obtain ⟨i, y, rfl, ey, -, k2, hQ⟩ := h
            obtain ⟨ss, es, hs⟩ := paired_get p3 ey
            rw [List.getElem?_map] at es
            obtain ⟨p, ep, rfl⟩ := Option.map_eq_some_iff.mp es
            obtain ⟨a, xs, t, rfl, hq, hA⟩ := (((hs.ke ke10).ke Ke.off).ke (k11'.trans k2).ke0).sq
            cases hA with
            | cons r1 hA =>
            cases hA with
            | cons r2 hA =>
              cases r1
              cases r2
              refine ⟨a, _, t, _, _, rfl, hq, rfl, rfl, fun q hq' => hQ _ _ (Kp.new hq') ?_⟩
              show KAt true _ _ ((lanes[i]?.map fun p => [(Sum.inr p.1 : Key), Sum.inr p.2.1]).getD [])
              rw [ep]
              exact ⟨q, rfl, upd_same⟩
          · -- self.own_lanes = sorted([tuple(lane) for lane in lanes])
            have k1012 := k11'.trans k12
            have hx12 := k1012.ins (by simp) hx10
            have hD12 := k1012.dK (by simp) hD10
            have hp12 := k1012.lst (by simp) hp10
            have k012 : Kp T [x] H H12 := k9.trans (k1012.mono (by simp))
            clear k1012 k12 k11 k11' kpb hpb11 fL0 fL1 c1 I1 hx10 hD10 hp10 k9 ke10 tb10
            have ke12 : Ke (off (x :: l) H) (off (x :: l) H12) := (k012.mono (by simp)).ke
            have hl12 : ∀ b ∈ x :: l, H12 b ≠ none := fun b hb e => hl' b hb (k012.n b e)
            refine ⟨_, rfl, rfl, _, rfl, iteF ?_⟩
            refine rd_next ?_
            dsimp only
            refine rd_seq (rd_fld (rd_cb (rd_cons (lc_tup T (x :: l) hl12 (fun R r => ⟨_, rfl, r⟩) (q3.ke ke12) (paired_ke p3 ke12) fun D zs H13 hD k13 hDz hz => ?_))))
            have eD : (lanes.map lnA).map PyData.tuple = lanes.map lnD := by rw [List.map_map]; rfl
            rw [eD] at hz
            refine ⟨D, zs, lanes.map lnD, rfl, .inl ⟨true, SqL.of hDz⟩, (hz.ke Ke.off).dp (noDA_map lanes fun _ => rfl), PySem.W.AllAlike.of (fun _ _ => by simp [lnD, PySem.W.alike, PySem.W.alikeAll]), PySem.W.Sortable.tuples (fun b => ⟨_, _, rfl⟩), fun d hd => ?_, fun p14 hp14 => ?_⟩
            · obtain ⟨r, -, rfl⟩ := List.mem_map.mp hd
              simp [lnD, PyData.depth, PyData.depthAll]
            have hls : RpA K (off (x :: l) H13) (srtV zs (lanes.map lnD)) ((srtBy lnD lanes).map lnD) := by
              rw [← srtD_map]
              exact rpA_srt hz
            generalize srtV zs (lanes.map lnD) = ls at hls ⊢
            have hx13 := k13.ins (by simp) hx12
            have hD13 := k13.dK (by simp) hD12
            have hp13 := k13.lst (by simp) hp12
            have k013 : Kp T [x] H H13 := k012.trans (k13.mono (by simp))
            clear hx12 hD12 hp12 k13 hl12 ke12 k012 hDz hD eD
            have n13x : x ≠ p14 := ne_of_none hx13 hp14
            have n13D : D2 ≠ p14 := ne_of_none hD13 hp14
            have n13p : p8 ≠ p14 := ne_of_none hp13 hp14
            have h140 : H p14 = none := k013.n p14 hp14
            have nl14 : p14 ∉ l := fun z => hl p14 z h140
            have n2 : ¬ ("own_rooms" : Str) = "own_lanes" := by decide +kernel
            have n3 : ¬ ("own_homes" : Str) = "own_lanes" := by decide +kernel
            refine ⟨_, rfl, x, C, dx, fs2, rfl, by rw [upd_ne n13x]; exact hx13, cs.cl, cs.nL, Nat.lt_of_le_of_lt len2 (by decide), ?_⟩
            have hx14 : L2.upd H13 p14 (.lst ls) x = some (.ins C dx fs2) := by rw [upd_ne n13x]; exact hx13
            have kk : Kp T [x] H13 (L2.upd (L2.upd H13 p14 (.lst ls)) x (.ins C dx (putF "own_lanes" (.ref p14) fs2))) := (Kp.new hp14).trans (Kp.updI (by simp) hx14)
            have hx15 : (L2.upd (L2.upd H13 p14 (.lst ls)) x (.ins C dx (putF "own_lanes" (.ref p14) fs2))) x = some (.ins C dx (putF "own_lanes" (.ref p14) fs2)) := upd_same
            have hp15 : (L2.upd (L2.upd H13 p14 (.lst ls)) x (.ins C dx (putF "own_lanes" (.ref p14) fs2))) p14 = some (.lst ls) := by rw [upd_ne n13x.symm, upd_same]
            have hD15 := kk.dK (by simp [nxD.symm]) hD13
            have h815 := kk.lst (by simp [nxp.symm]) hp13
            have k015 := k013.trans kk
            have hls15 := hls.ke (kk.mono (l' := x :: l) (by simp)).ke
            have l1 : List.lookup ("own_rooms" : Str) (putF "own_lanes" (V.ref p14) fs2) = some (V.ref D2) := by rw [lookup_putF, if_neg n2]; exact lk2
            have l2 : List.lookup ("own_homes" : Str) (putF "own_lanes" (V.ref p14) fs2) = some (V.ref p8) := by rw [lookup_putF, if_neg n3]; exact lk3
            have l3 : List.lookup ("own_lanes" : Str) (putF "own_lanes" (V.ref p14) fs2) = some (V.ref p14) := by rw [lookup_putF, if_pos rfl]
            have lN : ∀ y : Str, y ≠ "own_rooms" → y ≠ "own_homes" → y ≠ "own_lanes" → List.lookup y (putF "own_lanes" (V.ref p14) fs2) = none := fun y a b c => by rw [lookup_putF, if_neg c]; exact lkN y a b
            have len3 : (putF "own_lanes" (V.ref p14) fs2).length ≤ 3 := Nat.le_trans (putF_len _ _ _) (Nat.succ_le_succ len2)
            dsimp only
            generalize (L2.upd (L2.upd H13 p14 (.lst ls)) x (.ins C dx (putF "own_lanes" (.ref p14) fs2))) = H15 at kk hx15 hp15 hD15 h815 k015 hls15 ⊢
            generalize putF "own_lanes" (V.ref p14) fs2 = fs3 at hx15 l1 l2 l3 lN len3 ⊢
            clear hls hx14 hx13 hD13 hp13 k013 kk hp14
            -- self.own_out = {corridor: [] for corridor in self.own_rooms}
            refine rd_seq (rd_fld ⟨D2, _, hD15, trivial, fun od => rd_dc ?_⟩)
            have e16x : L2.upd H15 D2 (.frz od (.dK (rmK (srtBy rmD rooms)))) x = some (.ins C dx fs3) := by rw [upd_ne nxD]; exact hx15
            refine ⟨_, rfl, x, C, dx, fs3, _, rfl, e16x, cs.cl, cs.nR, l1, D2, od, rfl, .inl ⟨_, upd_same, fun D3 hD3 => ?_⟩⟩
            have nD3 : D3 ≠ D2 := fun z => by rw [z, upd_same] at hD3; cases hD3
            have hD3' : H15 D3 = none := by rw [upd_ne nD3] at hD3; exact hD3
            have hns : ((srtBy rmD rooms).map (·.1)).Nodup := ((srtBy_perm rmD rooms).map _).nodup_iff.mpr ok.nd
            have hrl : (rmK (srtBy rmD rooms)).length = ((srtBy rmD rooms).map (·.1)).length := by
              unfold rmK
              rw [List.length_map, List.length_map]
            refine dc_acc (walk_keys) T [] hD3 (by simp) (by rw [hrl, List.length_map, (srtBy_perm rmD rooms).length_eq]; exact Nat.le_trans ok.rz (by decide)) (fun i acc H' => ∃ As : List Addr, acc = nmLs (((srtBy rmD rooms).map (·.1)).take i) As ∧ As.length = i ∧ As.Nodup ∧ ∀ a ∈ As, H' a = some (.lst []) ∧ H15 a = none)
              ⟨[], rfl, rfl, List.nodup_nil, fun _ z => by cases z⟩ (fun H' k' => k'.k D2 _ (by simp [nD3.symm]) upd_same fun _ z => by cases z) (fun i y acc H' H'' Q' Qn hi hn k' hDa R y' hk _ => ?_) fun H16 acc k' R hDa _ => ?_
            · obtain ⟨As, rfl, hA1, hA2, hA3⟩ := R
              obtain ⟨rfl, kk, vv, ey, rfl⟩ := y'
              unfold rmK at ey
              rw [List.getElem?_map] at ey
              obtain ⟨r, er, e⟩ := Option.map_eq_some_iff.mp ey
              cases e
              refine ⟨rfl, _, rfl, by show 0 ≤ sizeLine; decide, fun q hq => hk (Sum.inr r.1) (.ref q) _ (Kp.new hq) ⟨As ++ [q], ?_, ?_, ?_, fun a ha => ?_⟩⟩
              · exact nmLs_put hns (by rw [List.getElem?_map, er]; rfl) hA1
              · rw [List.length_append, hA1]; rfl
              · refine List.nodup_append.mpr ⟨hA2, List.nodup_cons.mpr ⟨(fun z => by cases z), List.nodup_nil⟩, fun a ha b hb => ?_⟩
                cases List.mem_singleton.mp hb
                have e := (of_off (hA3 a ha).1).2
                exact ne_of_none e hq
              · have nqD : q ≠ D3 := fun z => by rw [z, hDa] at hq; cases hq
                rcases List.mem_append.mp ha with ha | ha
                · obtain ⟨e1, e2⟩ := hA3 a ha
                  obtain ⟨e3, e4⟩ := of_off e1
                  exact ⟨off_some e3 (by rw [upd_ne (ne_of_none e4 hq)]; exact e4), e2⟩
                · cases List.mem_singleton.mp ha
                  refine ⟨off_some (by simp [nqD]) upd_same, ?_⟩
                  have e := k'.n q hq
                  by_cases hz : q = D2
                  · rw [hz, upd_same] at e; cases e
                  · rw [upd_ne hz] at e; exact e
            · obtain ⟨As, rfl, hA1, hA2, hA3⟩ := R
              rw [hrl, List.take_length] at hDa
              rw [hrl] at hA1
              have hf16 : H16 D2 = some (.frz od (.dK (rmK (srtBy rmD rooms)))) := k'.k D2 _ (by simp [nD3.symm]) upd_same fun _ z => by cases z
              have k16 : Kp T [] H15 (L2.upd H16 D2 (.dK (rmK (srtBy rmD rooms)))) := kp_unlockD (k'.drop hD3) hD15 (by simp)
              have hDa' : L2.upd H16 D2 (.dK (rmK (srtBy rmD rooms))) D3 = some (.dK (nmLs ((srtBy rmD rooms).map (·.1)) As)) := by rw [upd_ne nD3]; exact hDa
              have hAs : ∀ a ∈ As, L2.upd H16 D2 (.dK (rmK (srtBy rmD rooms))) a = some (.lst []) ∧ H15 a = none := fun a ha => by
                obtain ⟨e1, e2⟩ := hA3 a ha
                have nz : a ≠ D2 := fun z => by rw [z, hD15] at e2; cases e2
                exact ⟨by rw [upd_ne nz]; exact (of_off e1).2, e2⟩
              refine ⟨hf16, ?_⟩
              clear hf16 hA3 hDa k' e16x
              generalize L2.upd H16 D2 (.dK (rmK (srtBy rmD rooms))) = H17 at k16 hDa' hAs ⊢
              have hx17 := k16.ins (by simp) hx15
              refine ⟨_, rfl, x, C, dx, fs3, rfl, hx17, cs.cl, cs.nO, Nat.lt_of_le_of_lt len3 (by decide), ?_⟩
              have nx3 : x ≠ D3 := ne_of_none hx15 hD3'
              have k18 : Kp T [x] H15 (L2.upd H17 x (.ins C dx (putF "own_out" (.ref D3) fs3))) := (k16.mono (by simp)).trans (Kp.updI (by simp) hx17)
              have hx18 : (L2.upd H17 x (.ins C dx (putF "own_out" (.ref D3) fs3))) x = some (.ins C dx (putF "own_out" (.ref D3) fs3)) := upd_same
              have hD18 : (L2.upd H17 x (.ins C dx (putF "own_out" (.ref D3) fs3))) D3 = some (.dK (nmLs ((srtBy rmD rooms).map (·.1)) As)) := by rw [upd_ne nx3.symm]; exact hDa'
              have hA18 : ∀ a ∈ As, (L2.upd H17 x (.ins C dx (putF "own_out" (.ref D3) fs3))) a = some (.lst []) ∧ H15 a = none := fun a ha => by
                obtain ⟨e1, e2⟩ := hAs a ha
                exact ⟨by rw [upd_ne (fun z => by rw [z, hx15] at e2; cases e2)]; exact e1, e2⟩
              have o1 : List.lookup ("own_rooms" : Str) (putF "own_out" (V.ref D3) fs3) = some (V.ref D2) := by rw [lookup_putF, if_neg (by decide +kernel)]; exact l1
              have o2 : List.lookup ("own_homes" : Str) (putF "own_out" (V.ref D3) fs3) = some (V.ref p8) := by rw [lookup_putF, if_neg (by decide +kernel)]; exact l2
              have o3 : List.lookup ("own_lanes" : Str) (putF "own_out" (V.ref D3) fs3) = some (V.ref p14) := by rw [lookup_putF, if_neg (by decide +kernel)]; exact l3
              have o4 : List.lookup ("own_out" : Str) (putF "own_out" (V.ref D3) fs3) = some (V.ref D3) := by rw [lookup_putF, if_pos rfl]
              have oN : ∀ y : Str, y ≠ "own_rooms" → y ≠ "own_homes" → y ≠ "own_lanes" → y ≠ "own_out" → List.lookup y (putF "own_out" (V.ref D3) fs3) = none := fun y a b c d => by rw [lookup_putF, if_neg d]; exact lN y a b c
              dsimp only
              generalize (L2.upd H17 x (.ins C dx (putF "own_out" (.ref D3) fs3))) = H18 at k18 hx18 hD18 hA18 ⊢
              generalize putF "own_out" (V.ref D3) fs3 = fs4 at hx18 o1 o2 o3 o4 oN ⊢
              clear hx17 hDa' hAs k16 hD3
              have hp18 := k18.lst (by simp [n13x.symm]) hp15
              have nA : ∀ a ∈ As, ∀ b o, H15 b = some o → b ≠ a := fun a ha b o e => ne_of_none e (hA18 a ha).2
              -- for one, other, cost in self.own_lanes
              refine ⟨_, rfl, x, C, dx, fs4, _, rfl, hx18, cs.cl, cs.nL, o3, p14, ls, true, rfl, SqL.of hp18, fun J Gj hsz W hG => ?_⟩
              have nAx : x ∉ As := fun ha => nA x ha x _ hx15 rfl
              have nA14 : p14 ∉ As := fun ha => nA p14 ha p14 _ hp15 rfl
              have nAD : D3 ∉ As := fun ha => by rw [(hA18 D3 ha).1] at hD18; cases hD18
              have ken : Ke (off (x :: l) H15) (off As H18) := fun b o e n => off_some (fun ha => nA b ha b o (of_off e).2 rfl) (k18.k b o (by simpa using fun z : b = x => (of_off e).1 (by simp [z])) (of_off e).2 n)
              have hlsA := hls15.ke ken
              have hll : ls.length = (srtBy lnD lanes).length := by rw [hls15.length, List.length_map]
              refine for_it W (fun i σ H' => (∃ a b c, σ = [some (.ref x), some (.ref ra), some (.ref ha), some (.ref la), some .non, a, b, c, none, none, none, none]) ∧ Kp T As H18 H' ∧ ∀ (j : Nat) (n : Str) (a : Addr), ((srtBy rmD rooms).map (·.1))[j]? = some n → As[j]? = some a →
                  ∃ zs, H' a = some (.lst zs) ∧ zs.length ≤ i ∧ RpA K (off (As ++ l) H') zs (outL ((srtBy lnD lanes).take i) n))
                ⟨⟨_, _, _, rfl⟩, Kp.refl, fun j n a e1 e2 => ⟨[], (hA18 a (List.mem_of_getElem? e2)).1, Nat.le_refl _, .nil⟩⟩ (fun i σ H' _ pv => hG H' (SqL.of (pv.2.1.lst nA14 hp18))) (fun i y σ H' H'' hi pv yy => ?_) fun σ H' pv => ?_
              · obtain ⟨⟨a0, b0, c0, rfl⟩, k19, hz⟩ := pv
                obtain ⟨rfl, ey⟩ := yy
                obtain ⟨d, ed, rd⟩ := hlsA.get ey
                rw [List.getElem?_map] at ed
                obtain ⟨p, ep, rfl⟩ := Option.map_eq_some_iff.mp ed
                have rd' := rd.ke k19.ke
                have hpn : p.1 ∈ (srtBy rmD rooms).map (·.1) := (nrm _).mpr (ok.ln p ((srtBy_perm lnD lanes).mem_iff.mp (List.mem_of_getElem? ep))).1
                obtain ⟨j, ej⟩ := List.mem_iff_getElem?.mp hpn
                have hj : j < As.length := by
                  have := (List.getElem?_eq_some_iff.mp ej).1
                  omega
                have eaj : As[j]? = some As[j] := by simp [hj]
                have hmA : As[j] ∈ As := List.getElem_mem hj
                obtain ⟨zs, z1, z2, z3⟩ := hz j p.1 _ ej eaj
                have hx19 := k19.ins nAx hx18
                have hD19 := k19.dK nAD hD18
                have hg : DGet H'' D3 (kV (Sum.inr p.1)) (some (.ref As[j])) := by
                  have q := DGet.k (k := Sum.inr p.1) hD19
                  rw [valV_at (nmLs_nodup hns hA1) (nmLs_get ej eaj)] at q
                  exact q
                cases rd' with
                | tup hq hA =>
                cases hA with
                | cons r1 hA =>
                cases hA with
                | cons r2 hA =>
                cases hA with
                | cons r3 hA =>
                cases hA
                cases r1
                cases r2
                cases r3
                refine ⟨_, _, rfl, Ke.off.tq hq, rfl, _, _, rfl, _, _, rfl, _, _, rfl, rfl, ?_⟩
                refine ⟨_, rfl, x, C, dx, fs4, _, rfl, hx19, cs.cl, cs.nO, o4, _, rfl, D3, .ref As[j], rfl, hg, .inl ⟨rfl, _, SqL.of z1⟩, _, rfl, _, rfl, by show 2 ≤ sizeLine; decide, fun q hq' => ?_⟩
                have nqj : As[j] ≠ q := ne_of_none z1 hq'
                have z1' : L2.upd H'' q (.tup [.str p.2.1, .int p.2.2]) As[j] = some (.lst zs) := by rw [upd_ne nqj]; exact z1
                refine ⟨As[j], zs, .ref q, rfl, rfl, z1', Nat.lt_of_le_of_lt z2 (Nat.lt_of_lt_of_le hi hsz), ?_⟩
                have kn : Kp T As H'' (L2.upd (L2.upd H'' q (.tup [.str p.2.1, .int p.2.2])) As[j] (.lst (zs ++ [.ref q]))) := (Kp.new hq').trans (Kp.upd hmA z1')
                have kne : Ke (off (As ++ l) H'') (off (As ++ l) (L2.upd (L2.upd H'' q (.tup [.str p.2.1, .int p.2.2])) As[j] (.lst (zs ++ [.ref q])))) := (kn.mono fun b hb => List.mem_append_left _ hb).ke
                refine ⟨⟨_, _, _, rfl⟩, k19.trans kn, fun j' n a e1 e2 => ?_⟩
                by_cases hjj : j' = j
                · subst hjj
                  rw [ej] at e1
                  rw [eaj] at e2
                  cases e1
                  cases e2
                  refine ⟨zs ++ [.ref q], upd_same, by rw [List.length_append]; show zs.length + 1 ≤ i + 1; omega, ?_⟩
                  rw [outL_yes ep]
                  refine (z3.ke kne).snoc (.tup (SqT.of (off_some ?_ ?_)) (.cons (.str _) (.cons (.int _) .nil)))
                  · intro hm
                    rcases List.mem_append.mp hm with hm | hm
                    · obtain ⟨jq, hjq⟩ := List.mem_iff_getElem?.mp hm
                      have hlt := (List.getElem?_eq_some_iff.mp hjq).1
                      obtain ⟨nq, en⟩ : ∃ nq, ((srtBy rmD rooms).map (·.1))[jq]? = some nq := ⟨_, List.getElem?_eq_getElem (by omega)⟩
                      obtain ⟨zq, zq1, _⟩ := hz jq _ _ en hjq
                      rw [hq'] at zq1
                      cases zq1
                    · exact hl q hm (k015.n q (k18.n q (k19.n q hq')))
                  · rw [upd_ne nqj.symm, upd_same]
                · obtain ⟨zs', y1, y2, y3⟩ := hz j' n a e1 e2
                  have na : a ≠ As[j] := fun z => hjj ((List.getElem?_inj (List.getElem?_eq_some_iff.mp e2).1 hA2).mp (e2.trans (by rw [z]; exact eaj.symm)))
                  have nn : p.1 ≠ n := fun z => hjj ((List.getElem?_inj (List.getElem?_eq_some_iff.mp e1).1 hns).mp (e1.trans (by rw [← z]; exact ej.symm)))
                  refine ⟨zs', by rw [upd_ne na, upd_ne (ne_of_none y1 hq')]; exact y1, Nat.le_succ_of_le y2, ?_⟩
                  rw [outL_no ep nn]
                  exact y3.ke kne
              · obtain ⟨⟨a0, b0, c0, rfl⟩, k19, hz⟩ := pv
                have e0 : ∀ a ∈ As, H a = none := fun a ha => k015.n a (hA18 a ha).2
                have k019 : Kp T [x] H H' := Kp.fresh (k015.trans k18) (k19.mono fun b hb => List.mem_append_left _ hb) e0
                have hx19 := k19.ins nAx hx18
                have nAl : ∀ a ∈ As, a ∉ l := fun a ha hb => hl a hb (e0 a ha)
                have keL : Ke (off (x :: l) H15) (off l H') := fun b o e n => by
                  obtain ⟨e1, e2⟩ := of_off e
                  have e3 := k18.k b o (by simpa using fun z : b = x => e1 (by simp [z])) e2 n
                  exact off_some (fun z => e1 (List.mem_cons_of_mem _ z)) (k19.k b o (fun ha => nA b ha b o e2 rfl) e3 n)
                refine k H' k019 fun m hm => ?_
                have nm : ∀ b, H b = none → b ∉ m := fun b e z => by rcases hm b z with ⟨_, q⟩ | ⟨_, q⟩ <;> rw [e] at q <;> cases q
                have xm : x ∉ m := fun z => by rcases hm x z with ⟨_, q⟩ | ⟨_, q⟩ <;> rw [hx] at q <;> cases q
                have hm' : LD m H' := fun a ha => by
                  have nx : a ≠ x := fun z => xm (z ▸ ha)
                  rcases hm a ha with ⟨xs, q⟩ | ⟨xs, q⟩
                  · exact .inl ⟨xs, k019.lst (by simp [nx]) q⟩
                  · exact .inr ⟨xs, k019.dK (by simp [nx]) q⟩
                have fl : ∀ f v, List.lookup f fs4 = some v → Fld C (off m H') x f v := fun f v e => ⟨dx, fs4, off_some xm hx19, e⟩
                refine ⟨⟨D2, fl _ _ o1, off_some (nm _ hD0) (of_off (keL _ _ (off_some (by simp [nxD.symm, nlD]) hD15) fun _ z => by cases z)).2⟩, ⟨p8, fl _ _ o2, off_some (nm _ hp0) (of_off (keL _ _ (off_some (by simp [nxp.symm, nlp]) h815) fun _ z => by cases z)).2⟩,
                  ⟨p14, ls, fl _ _ o3, off_some (nm _ h140) (of_off (keL _ _ (off_some (by simp [n13x.symm, nl14]) hp15) (fun _ z => by cases z))).2, ((hls15.ke keL).ke Ke.off).vis hm' (tupOA_map tupO_lnD _)⟩, ⟨D3, _, fl _ _ o4, off_some (nm D3 (k015.n D3 hD3')) (k19.dK nAD hD18), ?_⟩, fun y a b c d => ⟨dx, fs4, off_some xm hx19, oN y a b c d⟩⟩
                have q := rpD_lists (K := K) (H := off m H') (f := fun n => outL (srtBy lnD lanes) n) (ns := (srtBy rmD rooms).map (·.1)) (As := As) hA1 (fun j n a e1 e2 => by
                  obtain ⟨zs, y1, y2, y3⟩ := hz j n a e1 e2
                  rw [hll, List.take_length] at y3
                  exact .lst (off_some (nm a (e0 a (List.mem_of_getElem? e2))) y1) ((y3.ke Ke.off).vis hm' (tupOA_map (fun p => by simp [tupO, tupOA]) _)))
                rw [List.map_map] at q
                exact q
          · exact (noBad (f := fun p : Str × Str × Int => [(Sum.inr p.1 : Key), Sum.inr p.2.1]) (l := lanes) (lk_nodup ok.ld) n (by have := paired_len p3; rw [List.length_map] at this; omega) hb).elim
        · exact (noBad (f := fun z : Str => [(Sum.inr z : Key)]) (l := homes) (nodup_inj (fun a b e => by cases e; rfl) ok.hd) n (by rw [List.length_map] at hn; exact hn) hb).elim
    · exact (noBad (f := fun p : Str × Int => [(Sum.inr p.1 : Key)]) (l := rooms) (rk_nodup ok.nd) n (by have := paired_len p1; rw [List.length_map] at this; omega) hb).elim
/-- an own class made by keywords alone -/
structure MkKw (P : Program) (w : World) (K : PySem.W.Frag) (mg : Str → Option Value) (base : Heap) (k : Nat) (x : Str) (C : Addr) (ks : List Str) (gV : List V → List V → List V) (sp : Sp) : Prop where
  ex : ∃ (f : Addr) (fd : FuncData) (ps : List Str) (g : List Value → List Value → List Value), FnOk P w K mg base CX0 k f fd ps sp ∧ Mk K C f ∧ mg x = some (.ref C) ∧ KBn K fd ps 1 ks g gV
def rev3 {α : Type} : List α → List α → List α := fun us ws => us ++ ws.reverse
theorem d_init (B : Blt mg) (cs : ClsS K mg C) {c PT g : Addr} {nm : Nat → Nat → Str} (TB : TabB base mg c PT) (hm : (PT, nm) ∈ T) (hu : ∀ p ∈ T, p.1 = PT → p.2 = nm) (hn : ∀ i j, nm i j = qInit)
    (G1 : DefOk P w K mg base 3 "is_room" (sp_is_room K T)) (G2 : DefOk P w K mg base 1 "is_name" (sp_is_name K T)) (G3 : DefOk P w K mg base 1 "itself" sp_itself) (Gf : DefOkS P w K mg base 5 "first_bad" (sp_first_bad P w K mg base T 3))
    (Gl : MetOk P w K mg base 3 C "is_lane" (sp_is_lane K T C)) (bm : BMeth K C "is_lane" g) (F : InitFn K mg "Space" C "Space.__init__" s_init c) : MkOk P w K mg base 6 "Space" C (sp_init K T C) ∧ MkKw P w K mg base 6 "Space" C ["lanes", "homes", "rooms"] rev3 (sp_init K T C) := by
  obtain ⟨f, fd, q, M, hmg, F⟩ := d_init0 B cs TB hm hu hn G1 G2 G3 Gf Gl bm F
  refine ⟨⟨f, fd, _, q, M, hmg, F.binds (fun _ _ _ _ _ _ us hl => match us, hl with | [_, _, _, _], _ => rfl)⟩, ⟨f, fd, _, rev3, q, M, hmg, ⟨fun s us ws _ h1 h2 => ?_, fun r1 r2 => ?_⟩⟩⟩
  · obtain ⟨oc, od, kV, doc, pm, an, ct, osl, rfl, lk, hcd⟩ := F.ex
    match us, ws, h1, h2 with
    | [_], [_, _, _], _, _ => exact BindsTo.of_looks fun M => .of_pure rfl
  · exact vals_app r1 (vals_rev r2)
end
end Sky
set_option Elab.async false
set_option linter.all false
set_option maxRecDepth 100000
set_option maxHeartbeats 4000000
/-! Sky U: repr(..) of data, dicts within. -/
namespace Sky
open PySem PySem.Spec PyProof.Rows L2 LamX NdefX PySem.W
section
variable {X : Cx} {pins : List (Addr × Obj)} {σ : L2.St} {H : Hp} {s : Shared}
theorem pairs_vals {P : Program} {w : World} : ∀ {es : List DictEntry} {vs : List (Key × Value)} {xs : List (Key × V)}, Pairs (mixKind P w) es vs → KV xs vs → Vals (xs.map fun p => kV p.1) (es.map (·.key)) ∧ Vals (xs.map (·.2)) (es.map (·.val))
  | _, _, _, .nil, h => by cases h; exact ⟨.nil, .nil⟩
  | _, _, _, .cons h1 h2 t, h => by
    cases h with
    | cons h3 t' =>
      obtain ⟨q1, q2⟩ := pairs_vals t t'
      obtain ⟨e1, e2⟩ := h3
      refine ⟨.cons ?_ q1, .cons (by have q := e2; rw [← h2] at q; exact q) q2⟩
      rw [← e1] at h1
      rename_i e kv es' vs' p xs'
      obtain ⟨k, v⟩ := p
      rcases keyIs_shape (show keyIs k e.key = true from h1) with ⟨i, t, ek, ev⟩ | ⟨z, t, ek, ev⟩
      · have ek : k = Sum.inl i := ek
        subst ek
        exact ⟨t, ev⟩
      · have ek : k = Sum.inr z := ek
        subst ek
        exact ⟨t, ev⟩
mutual
theorem Rp.shows (I : Inv X pins σ H s) : ∀ {v : V} {d : PyData} {u : Value}, Rp X.K H v d → RelV v u → d.showable = true → d.shown.length ≤ sizeLine → ∃ as bs, Reads s.heap u d as ∧ ReadAtMost s.heap d.depth bs ∧ ReprK X.prog X.w bs s.heap d.depth u d.shown
  | _, _, _, .non, r, _, _ => by
    cases r
    exact ⟨_, [], .none, (fun _ h => nomatch h), by simp only [PyData.shown]; exact .of_is ReprIs.none _ _ _⟩
  | _, _, _, .bl b, r, _, _ => by
    cases r
    exact ⟨_, [], .bool b, (fun _ h => nomatch h), by simp only [PyData.shown]; exact .of_is (ReprIs.bool b) _ _ _⟩
  | _, _, _, .int i, r, hs, _ => by
    obtain ⟨t, rfl⟩ := r
    exact ⟨_, [], .int i t, (fun _ h => nomatch h), by simp only [PyData.shown]; exact .of_is (ReprIs.int t (by simpa [PyData.showable] using hs)) _ _ _⟩
  | _, _, _, .str x, r, _, hz => by
    obtain ⟨t, rfl⟩ := r
    exact ⟨_, [], .str x t, (fun _ h => nomatch h), by simp only [PyData.shown]; exact .of_is (ReprIs.str x t (by simpa only [PyData.shown] using hz)) _ _ _⟩
  | _, _, _, .lst (a := a) (ds := ds) h1 h2, r, hs, hz => by
    cases r
    obtain ⟨its, rv, ⟨o, n, ho, hc, _, hd⟩, _⟩ := I.list (SqL.of h1)
    have hz' : (listText (PyData.shownAll ds)).length ≤ sizeLine := by simpa only [PyData.shown] using hz
    obtain ⟨as, bs, hr, hb, hk⟩ := RpA.shows I h2 rv (by simpa [PyData.showable] using hs) (fun t ht => Nat.le_trans (listText_mem_le ht) hz')
    have r : Reads s.heap (.ref a) (.list ds) _ := .list ho hc hd hr
    have hna : a ∉ bs := not_mem_of_deeper r (by simp only [PyData.depth]; omega) hb
    refine ⟨_, a :: bs, r, ReadAtMost.cons r (by simp only [PyData.depth]; omega) hb, ?_⟩
    simp only [PyData.depth, PyData.shown]
    cases its with
    | nil =>
      cases hr
      simp only [PyData.shownAll, listText_nil]
      exact ReprK.listEmpty ho hc hd
    | cons x l => exact ReprK.list ho hc hd hna (by simpa using hk.length_eq) (fun i y e => hk.item i y (by simpa using e))
  | _, _, _, .tup (a := a) (ds := ds) h1 h2, r, hs, hz => by
    cases r
    obtain ⟨its, rv, ⟨o, ho, hc, n, hd⟩, _⟩ := I.tuple h1
    have hz' : (tupleText (PyData.shownAll ds)).length ≤ sizeLine := by simpa only [PyData.shown] using hz
    obtain ⟨as, bs, hr, hb, hk⟩ := RpA.shows I h2 rv (by simpa [PyData.showable] using hs) (fun t ht => Nat.le_trans (tupleText_mem_le ht) hz')
    have r : Reads s.heap (.ref a) (.tuple ds) _ := .tuple ho hc hd hr
    have hna : a ∉ bs := not_mem_of_deeper r (by simp only [PyData.depth]; omega) hb
    refine ⟨_, a :: bs, r, ReadAtMost.cons r (by simp only [PyData.depth]; omega) hb, ?_⟩
    simp only [PyData.depth, PyData.shown]
    exact ReprK.tuple ho hc hd hna hk
  | _, _, _, .dct (a := a) (xs := xs) (ds := ds) h1 h2, r, hs, hz => by
    cases r
    obtain ⟨_, lo, vs, rel, o, es, ep, ho, hx, hd, _, hp, _⟩ := dk_of I.hok h1
    obtain ⟨v1, v2⟩ := pairs_vals hp rel
    have hz' : (dictText (PyData.shownKv ds)).length ≤ sizeLine := by simpa only [PyData.shown] using hz
    obtain ⟨hs1, hs2⟩ := PyData.showableKv_split ds (by simpa [PyData.showable] using hs)
    obtain ⟨⟨as1, b1, r1, hb1, k1⟩, ⟨as2, b2, r2, hb2, k2⟩⟩ := RpD.shows I h2 v1 v2 hs1 hs2 (fun t ht => let ⟨p, hp, hl⟩ := PyData.shownKv_key_le ds t ht; Nat.le_trans hl (Nat.le_trans (dictText_mem_le hp) hz')) (fun t ht => let ⟨p, hp, hl⟩ := PyData.shownKv_val_le ds t ht; Nat.le_trans hl (Nat.le_trans (dictText_mem_le hp) hz'))
    have r : Reads s.heap (.ref a) (.dict ds) _ := .dict ho hx.1 hd r1 r2
    have hb : ReadAtMost s.heap (PyData.depthKv ds) (b1 ++ b2) := (hb1.mono (PyData.depthAll_keys_le ds)).append (hb2.mono (PyData.depthAll_vals_le ds))
    have hna : a ∉ b1 ++ b2 := not_mem_of_deeper r (by simp only [PyData.depth]; omega) hb
    refine ⟨_, a :: (b1 ++ b2), r, ReadAtMost.cons r (by simp only [PyData.depth]; omega) hb, ?_⟩
    simp only [PyData.depth, PyData.shown, PyData.shownKv_eq]
    exact ReprK.dict ho hx.1 hd lo hna (ReprEntriesK.of_two es.toList _ _
      (k1.more_le (fun b hb => List.mem_append_left _ hb) (PyData.depthAll_keys_le ds)) (k2.more_le (fun b hb => List.mem_append_right _ hb) (PyData.depthAll_vals_le ds)))
theorem RpA.shows (I : Inv X pins σ H s) : ∀ {vs : List V} {ds : List PyData} {us : List Value}, RpA X.K H vs ds → Vals vs us → PyData.showableAll ds = true → (∀ t ∈ PyData.shownAll ds, t.length ≤ sizeLine) → ∃ as bs, ReadsAll s.heap us ds as ∧ ReadAtMost s.heap (PyData.depthAll ds) bs ∧ ReprAllK X.prog X.w bs s.heap (PyData.depthAll ds) us (PyData.shownAll ds)
  | _, _, _, .nil, r, _, _ => by
    cases r
    exact ⟨_, [], .nil, (fun _ h => nomatch h), by simp only [PyData.shownAll]; exact .nil⟩
  | _, _, _, .cons (d := d) (ds := ds) h t, r, hs, hz => by
    cases r with
    | cons r rs =>
      have hs' : d.showable = true ∧ PyData.showableAll ds = true := by simpa [PyData.showableAll] using hs
      obtain ⟨a1, b1, r1, hb1, k1⟩ := Rp.shows I h r hs'.1 (hz _ (by simp only [PyData.shownAll]; exact List.mem_cons_self ..))
      obtain ⟨a2, b2, r2, hb2, k2⟩ := RpA.shows I t rs hs'.2 (fun t ht => hz t (by simp only [PyData.shownAll]; exact List.mem_cons_of_mem _ ht))
      refine ⟨_, b1 ++ b2, .cons r1 r2, ?_, ?_⟩
      · simp only [PyData.depthAll]
        exact (hb1.mono (Nat.le_max_left _ _)).append (hb2.mono (Nat.le_max_right _ _))
      · simp only [PyData.depthAll, PyData.shownAll]
        exact .cons ((k1.more fun b hb => List.mem_append_left _ hb).level_le (Nat.le_max_left _ _)) (k2.more_le (fun b hb => List.mem_append_right _ hb) (Nat.le_max_right _ _))
theorem RpD.shows (I : Inv X pins σ H s) : ∀ {xs : List (Key × V)} {ds : List (PyData × PyData)} {ks us : List Value}, RpD X.K H xs ds → Vals (xs.map fun p => kV p.1) ks → Vals (xs.map (·.2)) us → PyData.showableAll (ds.map (·.1)) = true → PyData.showableAll (ds.map (·.2)) = true →
    (∀ t ∈ PyData.shownAll (ds.map (·.1)), t.length ≤ sizeLine) → (∀ t ∈ PyData.shownAll (ds.map (·.2)), t.length ≤ sizeLine) →
    (∃ as bs, ReadsAll s.heap ks (ds.map (·.1)) as ∧ ReadAtMost s.heap (PyData.depthAll (ds.map (·.1))) bs ∧ ReprAllK X.prog X.w bs s.heap (PyData.depthAll (ds.map (·.1))) ks (PyData.shownAll (ds.map (·.1)))) ∧
    ∃ as bs, ReadsAll s.heap us (ds.map (·.2)) as ∧ ReadAtMost s.heap (PyData.depthAll (ds.map (·.2))) bs ∧ ReprAllK X.prog X.w bs s.heap (PyData.depthAll (ds.map (·.2))) us (PyData.shownAll (ds.map (·.2)))
  | _, _, _, _, .nil, r1, r2, _, _, _, _ => by
    cases r1
    cases r2
    exact ⟨⟨_, [], .nil, (fun _ h => nomatch h), by simp only [List.map_nil, PyData.shownAll]; exact .nil⟩, ⟨_, [], .nil, (fun _ h => nomatch h), by simp only [List.map_nil, PyData.shownAll]; exact .nil⟩⟩
  | _, _, _, _, .cons (k := k) (d := d) (ds := ds) h t, r1, r2, hs1, hs2, hz1, hz2 => by
    cases r1 with
    | cons r1 rs1 =>
    cases r2 with
    | cons r2 rs2 =>
      have hs1' : (kD k).showable = true ∧ PyData.showableAll (ds.map (·.1)) = true := by simpa [PyData.showableAll] using hs1
      have hs2' : d.showable = true ∧ PyData.showableAll (ds.map (·.2)) = true := by simpa [PyData.showableAll] using hs2
      obtain ⟨⟨a2, b2, q2, hb2, k2⟩, ⟨a4, b4, q4, hb4, k4⟩⟩ := RpD.shows I t rs1 rs2 hs1'.2 hs2'.2 (fun t ht => hz1 t (by simp only [List.map_cons, PyData.shownAll]; exact List.mem_cons_of_mem _ ht)) (fun t ht => hz2 t (by simp only [List.map_cons, PyData.shownAll]; exact List.mem_cons_of_mem _ ht))
      obtain ⟨a3, b3, q3, hb3, k3⟩ := Rp.shows I h r2 hs2'.1 (hz2 _ (by simp only [List.map_cons, PyData.shownAll]; exact List.mem_cons_self ..))
      rename_i u0 us0 u1 us1
      have hk : ∃ as bs, Reads s.heap u0 (kD k) as ∧ ReadAtMost s.heap (kD k).depth bs ∧ ReprK X.prog X.w bs s.heap (kD k).depth u0 (kD k).shown := by
        have hz := hz1 (kD k).shown (by simp only [List.map_cons, PyData.shownAll]; exact List.mem_cons_self ..)
        cases k with
        | inl i =>
          obtain ⟨t, rfl⟩ := r1
          exact ⟨_, [], .int i t, (fun _ h => nomatch h), by simp only [kD, PyData.shown]; exact .of_is (ReprIs.int t (by simpa [kD, PyData.showable] using hs1'.1)) _ _ _⟩
        | inr x =>
          obtain ⟨t, rfl⟩ := r1
          exact ⟨_, [], .str x t, (fun _ h => nomatch h), by simp only [kD, PyData.shown]; exact .of_is (ReprIs.str x t (by simpa only [kD, PyData.shown] using hz)) _ _ _⟩
      obtain ⟨a1, b1, q1, hb1, k1⟩ := hk
      refine ⟨⟨_, b1 ++ b2, .cons q1 q2, ?_, ?_⟩, ⟨_, b3 ++ b4, .cons q3 q4, ?_, ?_⟩⟩
      · simp only [List.map_cons, PyData.depthAll]
        exact (hb1.mono (Nat.le_max_left _ _)).append (hb2.mono (Nat.le_max_right _ _))
      · simp only [List.map_cons, PyData.depthAll, PyData.shownAll]
        exact .cons ((k1.more fun b hb => List.mem_append_left _ hb).level_le (Nat.le_max_left _ _)) (k2.more_le (fun b hb => List.mem_append_right _ hb) (Nat.le_max_right _ _))
      · simp only [List.map_cons, PyData.depthAll]
        exact (hb3.mono (Nat.le_max_left _ _)).append (hb4.mono (Nat.le_max_right _ _))
      · simp only [List.map_cons, PyData.depthAll, PyData.shownAll]
        exact .cons ((k3.more fun b hb => List.mem_append_left _ hb).level_le (Nat.le_max_left _ _)) (k4.more_le (fun b hb => List.mem_append_right _ hb) (Nat.le_max_right _ _))
end
end
end Sky
set_option Elab.async false
set_option linter.all false
set_option maxRecDepth 100000
set_option maxHeartbeats 4000000
/-! Sky V: defs called where no repr is under way; repr(..) of data there. -/
namespace Sky
open PySem PySem.Spec PyProof.Rows L2 LamX NdefX PySem.W
/-- like DefOk, but asked only where no repr is under way -/
structure DefOkG (P : Program) (w : World) (K : PySem.W.Frag) (mg : Str → Option Value) (base : Heap) (k : Nat) (x : Str) (sp : Sp) : Prop where
  ex : ∃ (f : Addr) (fd : FuncData) (ps : List Str), (∀ vs H Q E, sp vs H Q E → vs.length = ps.length) ∧
    (∀ (A : Around) (outer : List Env) (s : Shared) (H : Hp) (args : Args) (us : List Value) (vs : List V) (Q : VK) (E : XK), A.guards = some [] → Room k A → Env0 P w K mg base A outer s H → BindsTo s fd args (ps.zip us) → Vals vs us → sp vs H Q E →
      codeAny (model P w) A (.call (.ref f) args) (CR CX0 outer P w H s Q E) s) ∧ mg x = some (.ref f) ∧ PySem.W.keepIn K (.ref f) = true ∧ Binds K fd ps []
theorem TopFn.okG {P : Program} {w : World} {K : PySem.W.Frag} {mg : Str → Option Value} {base : Heap} {x : Str} {st : Stmt} {N ps : List Str} {k : Nat} {sp : Sp} (F : TopFn K mg x st) (S : FnScope N ps (defScope st))
    (hb : ∀ (kV doc pm : Value) (an : Option Addr) (cdv ct : Value) (us : List Value), us.length = ps.length → bindArgs (PySem.W.fnOf x x (defArgs st) (defBody st) (defScope st) .none kV doc pm an cdv ct) ⟨us, []⟩ = pure (ps.zip us))
    (len : ∀ vs H Q E, sp vs H Q E → vs.length = ps.length)
    (hbody : ∀ (f : Addr) (cdv : Value) (A : Around) (outer : List Env) (s : Shared) (H : Hp) (vs : List V) (Q : VK) (E : XK), (A.deeper (envOfC x (defScope st) s.heap.objs.size f cdv)).guards = some [] → Room k (A.deeper (envOfC x (defScope st) s.heap.objs.size f cdv)) → sp vs H Q E →
      ∃ t, PSs (cxOf CX0 P w K mg base N x (defScope st) f cdv A outer s H E).nox (defBody st) t ∧ t { nx := fun _ H' => Q .non H', rt := Q } (start N vs) H) : DefOkG P w K mg base (k + 1) x sp := by
  obtain ⟨f, fd, F, hm⟩ := F.ex
  obtain ⟨oc, od, kV, doc, pm, an, cdv, ct, osl, rfl, lk, hcd⟩ := F.ex
  refine ⟨f, _, ps, len, fun A outer s H args us vs Q E hG hr e0 hb r q => ?_, hm, F.kp, .all (hb kV doc pm an cdv ct)⟩
  refine run_ofS lk hcd S hr e0 hb r (len _ _ _ _ q) fun hr' => ?_
  obtain ⟨t, h, q⟩ := hbody f cdv A outer s H vs Q E hG hr' q
  exact ⟨t, h.nox, q⟩
section
variable {X : Cx} {pins : List (Addr × Obj)} {σ : L2.St} {H : Hp} {s : Shared}
theorem pe_dG {e : Expr} {es : List Expr} {t : TA} {p pos : Pos} {k j : Nat} {x : Str} {sp : Sp} (D : DefOkG X.prog X.w X.K X.mg X.base k x sp) (hG : X.A.guards = some []) (hr : Room j X.A) (ha : PA X (e :: es) t) (hk : k ≤ j := by decide) (hg : Gl X x := by rfl)
    (hdb : (x == ("__debug__" : Str)) = false := by decide) (he : starEach (e :: es) X.env = (false, eval e X.env) :: starEach es X.env := by rfl) (hpl : (backTo pos (starEach es X.env)).any (·.1) = false := by rfl) :
    PE X (.Call (.Name x p) (e :: es) [] pos) (fun σ H Q => t σ H fun vs H1 => sp vs H1 Q E0) := by
  obtain ⟨f, fd, ps, len, run, hm, kp, b⟩ := D.ex
  refine ⟨fun pins s σ H Q I h => ?_⟩
  refine wpAny_Call_Name_kw (ld_glob I hg hm ?_ hdb)
  refine PySem.W.callWith_K (h₀ := X.base) I.ok.mod.kin kp (thn (ha.run pos pins s σ H _ I h) fun us s1 ⟨vs, H1, I1, r, q⟩ => ⟨I1.kIn, ?_⟩) he hpl
  have hl : us.length = ps.length := by rw [← r.length]; exact len _ _ _ _ q
  have bb := b s1 us I1.kIn (by rw [List.append_nil]; exact hl)
  rw [List.append_nil] at bb
  refine wpAny_call (codeAny_mono (run X.A X.stack s1 H1 ⟨us, []⟩ us vs Q E0 hG (hr.mono hk) I1.env0 bb r q) fun r s' hq => ?_)
  cases r with
  | error e => exact (show False from hq).elim
  | ok fl =>
    cases fl with
    | ret u => exact I1.after hq
    | next => exact False.elim hq
    | brk => exact False.elim hq
    | cont => exact False.elim hq
/-- repr(x), x a list or a tuple of data -/
def rRepr (K : PySem.W.Frag) : List V → Hp → VK → Prop := fun vs H Q => ∃ (x : V) (d : PyData), vs = [x] ∧ Rp K H x d ∧ ((∃ ds, d = .list ds) ∨ ∃ ds, d = .tuple ds) ∧ d.showable = true ∧ d.shown.length ≤ sizeLine ∧ d.depth ≤ 60 ∧ Q (.str d.shown) H
theorem call_reprD (hG : X.A.guards = some []) (hu : X.A.units + 64 < cLine) : CallR X (.builtin "repr") (rRepr X.K) := by
  intro pins s σ H vs us Q I r h
  obtain ⟨x, d, rfl, hx, hk, hs, hz, hd, q⟩ := h
  obtain ⟨u, rfl, rx⟩ := vals1 r
  rcases hk with ⟨ds, rfl⟩ | ⟨ds, rfl⟩
  · cases hx with
    | lst h1 h2 =>
      cases rx
      rename_i a xs
      obtain ⟨its, rv, ⟨o, n, ho, hc, _, hd'⟩, _⟩ := I.list (SqL.of h1)
      have hz' : (listText (PyData.shownAll ds)).length ≤ sizeLine := by simpa only [PyData.shown] using hz
      obtain ⟨as, bs, hr, hb, hk⟩ := RpA.shows I h2 rv (by simpa [PyData.showable] using hs) (fun t ht => Nat.le_trans (listText_mem_le ht) hz')
      have r : Reads s.heap (.ref a) (.list ds) _ := .list ho hc hd' hr
      have hna : a ∉ bs := not_mem_of_deeper r (by simp only [PyData.depth]; omega) hb
      simp only [PyData.depth] at hd
      simp only [PyData.shown] at q
      refine call_repr_slot (by omega) ⟨o, ho, hc⟩ F.slot_list_repr.toG ?_
      cases its with
      | nil =>
        cases hr
        simp only [PyData.shownAll, listText_nil] at q
        exact call_list_repr_empty ⟨o, ho, hc⟩ ho hd' ⟨_, _, rfl, .str _, H, I.kept fun _ _ e => e, ⟨_, rfl⟩, q⟩
      | cons y l => exact call_list_reprK ho hc hd' hna (by simpa using hk.length_eq) (fun i y e => hk.item i y (by simpa using e)) hG (fun b _ => Clear.nil b) (by show X.A.units + 1 + _ < cLine; omega) (fun _ _ e => e) (fun h' u tk hk' => ⟨_, _, rfl, .str _, H, I.kept hk', ⟨_, rfl⟩, q⟩) hz'
  · cases hx with
    | tup h1 h2 =>
      cases rx
      rename_i a xs
      obtain ⟨its, rv, ⟨o, ho, hc, n, hd'⟩, _⟩ := I.tuple h1
      have hz' : (tupleText (PyData.shownAll ds)).length ≤ sizeLine := by simpa only [PyData.shown] using hz
      obtain ⟨as, bs, hr, hb, hk⟩ := RpA.shows I h2 rv (by simpa [PyData.showable] using hs) (fun t ht => Nat.le_trans (tupleText_mem_le ht) hz')
      have r : Reads s.heap (.ref a) (.tuple ds) _ := .tuple ho hc hd' hr
      have hna : a ∉ bs := not_mem_of_deeper r (by simp only [PyData.depth]; omega) hb
      simp only [PyData.depth] at hd
      simp only [PyData.shown] at q
      exact call_repr_slot (by omega) ⟨o, ho, hc⟩ F.slot_tuple_repr (call_tuple_reprK ho hc hd' hna hk hG (fun b _ => Clear.nil b) (by show X.A.units + 1 + _ < cLine; omega) (fun _ _ e => e) (fun h' u tk hk' => ⟨_, _, rfl, .str _, H, I.kept hk', ⟨_, rfl⟩, q⟩) hz')
end
end Sky
set_option Elab.async false
set_option linter.all false
set_option maxRecDepth 100000
set_option maxHeartbeats 4000000
/-! Sky W: how long the text of data may be. -/
namespace Sky
open PySem PySem.Spec PyProof.Rows L2 LamX NdefX PySem.W
mutual
/-- small numbers, texts of true letters -/
def sml : PyData → Bool
  | .int i => decide (i.natAbs < 10 ^ 10)
  | .str x => x.cps.toList.all fun c => decide (c < 16 ^ 8)
  | .list xs => smlA xs
  | .tuple xs => smlA xs
  | .dict xs => smlD xs
  | _ => true
def smlA : List PyData → Bool
  | [] => true
  | x :: xs => sml x && smlA xs
def smlD : List (PyData × PyData) → Bool
  | [] => true
  | (a, b) :: xs => sml a && sml b && smlD xs
end
mutual
/-- a bound of the text -/
def tw : PyData → Nat
  | .none => 5
  | .bool _ => 5
  | .int _ => 12
  | .str x => 10 * x.length + 2
  | .list xs => twA xs + 2
  | .tuple xs => twA xs + 3
  | .dict xs => twD xs + 2
def twA : List PyData → Nat
  | [] => 0
  | x :: xs => tw x + 2 + twA xs
def twD : List (PyData × PyData) → Nat
  | [] => 0
  | (a, b) :: xs => tw a + tw b + 4 + twD xs
end
theorem join_len (sep : Str) (hs : sep.length = 2) : ∀ ts : List Str, (Str.join sep ts).length ≤ (ts.map fun t => t.length + 2).sum
  | [] => by simp [Str.join]; rfl
  | [x] => by simp [Str.join]
  | x :: y :: r => by
    have ih := join_len sep hs (y :: r)
    show (x ++ sep ++ Str.join sep (y :: r)).length ≤ _
    rw [strLen_append, strLen_append, List.map_cons, List.sum_cons, hs]
    omega
theorem from_len : ∀ (ts : List Str) (k : Nat) (acc : Str), (textFrom k acc ts).length ≤ acc.length + (ts.map fun t => t.length + 2).sum
  | [], k, acc => Nat.le_refl _
  | t :: r, k, acc => by
    have ih := from_len r (k + 1) (acc ++ (if k > 0 then ", " else "" : String) ++ t)
    have e : (acc ++ (if k > 0 then ", " else "" : String) ++ t).length = acc.length + (if k > 0 then 2 else 0) + t.length := by
      rw [strLen_append, strLen_append]
      split <;> rfl
    show (textFrom (k + 1) (acc ++ (if k > 0 then ", " else "" : String) ++ t) r).length ≤ _
    rw [e] at ih
    rw [List.map_cons, List.sum_cons]
    have e2 : (if k > 0 then 2 else 0) ≤ 2 := by split <;> decide
    omega
theorem listText_len (ts : List Str) : (listText ts).length ≤ (ts.map fun t => t.length + 2).sum + 2 := by
  have q := from_len ts 0 "["
  have e : (listText ts).length = (textFrom 0 "[" ts).length + 1 := by
    show (textFrom 0 "[" ts ++ "]").length = _
    rw [strLen_append]; rfl
  have e1 : ("[" : Str).length = 1 := rfl
  omega
theorem tupleText_len (ts : List Str) : (tupleText ts).length ≤ (ts.map fun t => t.length + 2).sum + 3 := by
  have q := join_len ", " rfl ts
  unfold tupleText
  rw [strLen_append, strLen_append]
  have e1 : ("(" : Str).length = 1 := rfl
  have e2 : ((if ts.length == 1 then ",)" else ")" : String) : Str).length ≤ 2 := by split <;> decide +kernel
  omega
theorem dictText_len (ts : List Str) : (dictText ts).length ≤ (ts.map fun t => t.length + 2).sum + 2 := by
  have q := join_len ", " rfl ts
  unfold dictText
  rw [strLen_append, strLen_append]
  have e1 : ("{" : Str).length = 1 := rfl
  have e2 : ("}" : Str).length = 1 := rfl
  omega
mutual
theorem shown_le : ∀ d : PyData, sml d = true → d.shown.length ≤ tw d
  | .none, _ => by simp only [PyData.shown, tw]; decide +kernel
  | .bool b, _ => by simp only [PyData.shown, tw]; cases b <;> decide +kernel
  | .int i, h => by
    simp only [PyData.shown, tw]
    have q := int_text_length_le10 (a := i) (k := 10) (by decide) (by simpa [sml] using h)
    show (Str.ofString (toString i)).length ≤ 12
    rw [PySem.ofString_length]
    omega
  | .str x, h => by
    simp only [PyData.shown, tw]
    exact PySem.StrLaws.reprText_len x fun c hc => of_decide_eq_true (List.all_eq_true.mp (by simpa only [sml] using h) c hc)
  | .list xs, h => by
    simp only [PyData.shown, tw]
    have := listText_len (PyData.shownAll xs)
    have := shownAll_le xs (by simpa [sml] using h)
    omega
  | .tuple xs, h => by
    simp only [PyData.shown, tw]
    have := tupleText_len (PyData.shownAll xs)
    have := shownAll_le xs (by simpa [sml] using h)
    omega
  | .dict xs, h => by
    simp only [PyData.shown, tw]
    have := dictText_len (PyData.shownKv xs)
    have := shownKv_le xs (by simpa [sml] using h)
    omega
theorem shownAll_le : ∀ ds : List PyData, smlA ds = true → ((PyData.shownAll ds).map fun t => t.length + 2).sum ≤ twA ds
  | [], _ => by simp [PyData.shownAll, twA]
  | d :: ds, h => by
    have h' : sml d = true ∧ smlA ds = true := by simpa [smlA] using h
    have := shown_le d h'.1
    have := shownAll_le ds h'.2
    simp only [PyData.shownAll, twA, List.map_cons, List.sum_cons]
    omega
theorem shownKv_le : ∀ ds : List (PyData × PyData), smlD ds = true → ((PyData.shownKv ds).map fun t => t.length + 2).sum ≤ twD ds
  | [], _ => by simp [PyData.shownKv, twD]
  | (a, b) :: ds, h => by
    have h' : (sml a = true ∧ sml b = true) ∧ smlD ds = true := by simpa [smlD] using h
    have := shown_le a h'.1.1
    have := shown_le b h'.1.2
    have := shownKv_le ds h'.2
    simp only [PyData.shownKv, twD, List.map_cons, List.sum_cons]
    rw [strLen_append, strLen_append]
    have e1 : (": " : Str).length = 2 := rfl
    omega
end
theorem log_small {n : Nat} (h : n < 10 ^ 10) : n.log2 < 1920 := by
  by_cases z : n = 0
  · subst z; decide
  · have q := (Nat.log2_lt z (k := 40)).mpr (Nat.lt_of_lt_of_le h (by decide))
    omega
mutual
theorem sml_showable : ∀ d : PyData, sml d = true → d.showable = true
  | .none, _ => by simp [PyData.showable]
  | .bool b, _ => by simp [PyData.showable]
  | .int i, h => by
    simp only [PyData.showable, decide_eq_true_eq]
    exact log_small (by simpa [sml] using h)
  | .str x, h => by simp [PyData.showable]
  | .list xs, h => by
    simp only [PyData.showable]
    exact smlA_showable xs (by simpa [sml] using h)
  | .tuple xs, h => by
    simp only [PyData.showable]
    exact smlA_showable xs (by simpa [sml] using h)
  | .dict xs, h => by
    simp only [PyData.showable]
    exact smlD_showable xs (by simpa [sml] using h)
theorem smlA_showable : ∀ ds : List PyData, smlA ds = true → PyData.showableAll ds = true
  | [], _ => by simp [PyData.showableAll]
  | d :: ds, h => by
    have h' : sml d = true ∧ smlA ds = true := by simpa [smlA] using h
    simp [PyData.showableAll, sml_showable d h'.1, smlA_showable ds h'.2]
theorem smlD_showable : ∀ ds : List (PyData × PyData), smlD ds = true → PyData.showableKv ds = true
  | [], _ => by simp [PyData.showableKv]
  | (a, b) :: ds, h => by
    have h' : (sml a = true ∧ sml b = true) ∧ smlD ds = true := by simpa [smlD] using h
    simp [PyData.showableKv, sml_showable a h'.1.1, sml_showable b h'.1.2, smlD_showable ds h'.2]
end
section
variable {X : Cx} {e : Expr} {es : List Expr} {t : TA} {p pos : Pos}
theorem e_repr (B : Blt X.mg) (hG : X.A.guards = some []) (hu : X.A.units + 64 < cLine) (ha : PA X (e :: es) t) (hg : Gl X "repr" := by rfl) (hpl : (backTo pos (starEach es X.env)).any (·.1) = false := by rfl) (he : starEach (e :: es) X.env = (false, eval e X.env) :: starEach es X.env := by rfl) :
    PE X (.Call (.Name "repr" p) (e :: es) [] pos) (tCB (rRepr X.K) t) := pe_callB (call_reprD hG hu) hg B.repr (by decide +kernel) ha (by decide) (by decide) he hpl
end
end Sky
set_option Elab.async false
set_option linter.all false
set_option maxRecDepth 100000
set_option maxHeartbeats 4000000
namespace Sky
open PySem PySem.Spec PyProof.Rows L2 LamX NdefX
section
variable {X : Cx} {t tk : TA} {p pos : Pos} {x : Str} {C : Addr} {k j : Nat} {sp : Sp} {kws : List Keyword} {ks : List Str} {gV : List V → List V → List V}
/-- C(k = v, ..) -/
theorem pe_mkK (D : MkKw X.prog X.w X.K X.mg X.base k x C ks gV sp) (hr : Room j X.A) (hkw : PK X kws tk) (hk : k + 1 ≤ j := by decide) (hg : Gl X x := by rfl)
    (hall : (backToKw pos (keywordEach kws X.env)).all (·.1.isSome) = true := by rfl) (hks : (backToKw pos (keywordEach kws X.env)).filterMap (·.1) = ks := by rfl) (hdb : (x == ("__debug__" : Str)) = false := by decide)
    (hpl : ((backTo pos (starEach [] X.env)).any (·.1) || (backToKw pos (keywordEach kws X.env)).any (·.1.isNone)) = false := by rfl) :
    PE X (.Call (.Name x p) [] kws pos) (tMakeK C 0 ks.length sp gV E0 tNil tk) := by
  obtain ⟨f, fd, ps, g, F, M, hm, b⟩ := D.ex
  exact pe_makeK0 (E := E0) M F (hr.mono hk) hg hm b pass0 hkw hall hks hdb hpl
end
end Sky
set_option Elab.async false
set_option linter.all false
set_option maxRecDepth 100000
set_option maxHeartbeats 4000000
/-! Sky Y: what is owned stays whatever changes elsewhere; what is new is not seen by what is old. -/
namespace Sky
open PySem PySem.Spec PyProof.Rows L2 LamX NdefX
section
variable {K : PySem.W.Frag} {H H' : Hp}
theorem ke_new {T : List NTab} {as : List Addr} (k : Kp T [] H H') (h : ∀ a ∈ as, H a = none) : Ke H (off as H') := fun b o e n => off_some (fun z => by rw [h b z] at e; cases e) (k.k b o (by simp) e n)
theorem ke_newF {T : List NTab} {l as : List Addr} (k : Kp T l H H') (h : ∀ a ∈ as, H a = none) : Ke (off l H) (off (l ++ as) H') := fun b o e n => by
  obtain ⟨e1, e2⟩ := of_off e
  refine off_some (fun z => ?_) (k.k b o e1 e2 n)
  rcases List.mem_append.mp z with z | z
  · exact e1 z
  · rw [h b z] at e2; cases e2
theorem ke_mk {x dx C : Addr} (h1 : H x = none) (h2 : H dx = none) : Ke H (off [x] (L2.upd (L2.upd H dx (.own x)) x (.ins C dx []))) := fun b o e _ => by
  have n1 := ne_of_none e h1
  have n2 := ne_of_none e h2
  exact off_some (by simp [n1]) (by rw [upd_ne n1, upd_ne n2]; exact e)
theorem kp_mk {T : List NTab} {x dx C : Addr} (h1 : H x = none) (h2 : H dx = none) (ndx : dx ≠ x) : Kp T [] H (L2.upd (L2.upd H dx (.own x)) x (.ins C dx [])) :=
  (Kp.new h2).trans (Kp.new (by rw [upd_ne ndx.symm]; exact h1))
theorem kp_made {T : List NTab} {x dx C : Addr} (h1 : H x = none) (h2 : H dx = none) (ndx : dx ≠ x) (k : Kp T [x] (L2.upd (L2.upd H dx (.own x)) x (.ins C dx [])) H') : Kp T [] H H' :=
  (((kp_mk h1 h2 ndx).mono (by simp)).trans k).drop h1
theorem ld_mk {x dx C : Addr} {m : List Addr} (h1 : H x = none) (h2 : H dx = none) (h : LD m H) : LD m (L2.upd (L2.upd H dx (.own x)) x (.ins C dx [])) := fun a ha => by
  rcases h a ha with ⟨xs, e⟩ | ⟨xs, e⟩
  · exact .inl ⟨xs, by rw [upd_ne (ne_of_none e h1), upd_ne (ne_of_none e h2)]; exact e⟩
  · exact .inr ⟨xs, by rw [upd_ne (ne_of_none e h1), upd_ne (ne_of_none e h2)]; exact e⟩
theorem LD.kp {T : List NTab} {m : List Addr} (h : LD m H) (k : Kp T [] H H') : LD m H' := fun a ha => by
  rcases h a ha with ⟨xs, e⟩ | ⟨xs, e⟩
  · exact .inl ⟨xs, k.lst (by simp) e⟩
  · exact .inr ⟨xs, k.dK (by simp) e⟩
theorem LD.app {m m' : List Addr} (h : LD m H) (h' : LD m' H) : LD (m ++ m') H := fun a ha => (List.mem_append.mp ha).elim (h a) (h' a)
theorem Ow.ld {v : V} {n : Nat} {as : List Addr} (h : Ow K H v n as) : LD as H := h.kind
theorem rpS_tup {α : Type} {f : α → List PyData} : ∀ {l : List α} {vs : List V}, RpA K H vs (l.map fun a => .tuple (f a)) → Paired (RpS K H) vs (l.map f)
  | [], _, h => by cases h; exact .nil
  | a :: l, _, h => by
    rw [List.map_cons] at h
    cases h with
    | cons h t => exact .cons ⟨_, h, .inr rfl⟩ (rpS_tup t)
end
end Sky
set_option Elab.async false
set_option linter.all false
set_option maxRecDepth 100000
set_option maxHeartbeats 1000000
/-! Sky Pa: readings that compute data and change nothing that is there. -/
namespace Sky
open PySem PySem.Spec PyProof.Rows L2 LamX NdefX
/-- all of l is there -/
def Th (l : List Addr) (H : Hp) : Prop := ∀ a ∈ l, H a ≠ none
theorem Th.kp {T : List NTab} {l m : List Addr} {H H' : Hp} (h : Th l H) (k : Kp T m H H') : Th l H' := fun a ha e => h a ha (k.n a e)
theorem Th.new {l : List Addr} {H : Hp} {p : Addr} (h : Th l H) (e : H p = none) : p ∉ l := fun z => h p z e
section
variable {K : PySem.W.Frag} {T : List NTab} {l : List Addr} {H H' : Hp}
theorem Rp.kp {v : V} {d : PyData} (h : Rp K (off l H) v d) (k : Kp T [] H H') : Rp K (off l H') v d := h.ke (k.mono (l' := l) (by simp)).ke
theorem RpA.kp {v : List V} {d : List PyData} (h : RpA K (off l H) v d) (k : Kp T [] H H') : RpA K (off l H') v d := h.ke (k.mono (l' := l) (by simp)).ke
end
/-- te gives d; ta gives ds; tt is b -/
def PuE (K : PySem.W.Frag) (T : List NTab) (l : List Addr) (te : TE) (σ : L2.St) (H : Hp) (d : PyData) : Prop := ∀ H1, Kp T [] H H1 → ∀ Q : VK, (∀ v H2, Kp T [] H1 H2 → Rp K (off l H2) v d → Q v H2) → te σ H1 Q
def PuA (K : PySem.W.Frag) (T : List NTab) (l : List Addr) (ta : TA) (σ : L2.St) (H : Hp) (ds : List PyData) : Prop := ∀ H1, Kp T [] H H1 → ∀ Q : List V → Hp → Prop, (∀ vs H2, Kp T [] H1 H2 → RpA K (off l H2) vs ds → Q vs H2) → ta σ H1 Q
def PuT (T : List NTab) (tt : L2.TT) (σ : L2.St) (H : Hp) (b : Bool) : Prop := ∀ H1, Kp T [] H H1 → ∀ Q : Bool → Hp → Prop, (∀ H2, Kp T [] H1 H2 → Q b H2) → tt σ H1 Q
section
variable {K : PySem.W.Frag} {T : List NTab} {l : List Addr} {te ta tb tc : TE} {tl : TA} {tt tu : L2.TT} {σ : L2.St} {H H' : Hp} {d e : PyData} {ds es : List PyData} {b c : Bool}
theorem PuE.mono (h : PuE K T l te σ H d) (k : Kp T [] H H') : PuE K T l te σ H' d := fun H1 k1 Q q => h H1 (k.trans k1) Q q
theorem PuT.mono (h : PuT T tt σ H b) (k : Kp T [] H H') : PuT T tt σ H' b := fun H1 k1 Q q => h H1 (k.trans k1) Q q
theorem PuE.is (h : PuE K T l te σ H d) (z : d = e) : PuE K T l te σ H e := z ▸ h
theorem pu_var {i : Nat} {v : V} (hs : σ[i]? = some (some v)) (hv : Rp K (off l H) v d) : PuE K T l (tVar i) σ H d := fun H1 k1 Q q => ⟨v, hs, q v H1 Kp.refl (hv.kp k1)⟩
theorem pu_int {i : Int} : PuE K T l (tC (.int i)) σ H (.int i) := fun H1 _ Q q => q _ H1 Kp.refl (.int i)
theorem pu_str {i : Str} : PuE K T l (tC (.str i)) σ H (.str i) := fun H1 _ Q q => q _ H1 Kp.refl (.str i)
theorem pu_bl {i : Bool} : PuE K T l (tC (.bl i)) σ H (.bool i) := fun H1 _ Q q => q _ H1 Kp.refl (.bl i)
theorem pu_non : PuE K T l (tC .non) σ H .none := fun H1 _ Q q => q _ H1 Kp.refl .non
theorem pua_nil : PuA K T l tNil σ H [] := fun H1 _ Q q => q _ H1 Kp.refl .nil
theorem pua_cons (h : PuE K T l te σ H d) (t : PuA K T l tl σ H ds) : PuA K T l (tCons te tl) σ H (d :: ds) := fun H1 k1 Q q => h H1 k1 _ fun v H2 k2 r => t H2 (k1.trans k2) _ fun vs H3 k3 rs => q (v :: vs) H3 (k2.trans k3) (.cons (r.kp k3) rs)
theorem le_line {n : Nat} (h : n ≤ 1000000) : n ≤ sizeLine := Nat.le_trans h (by decide)
theorem pu_tup (hl : Th l H) (h : PuA K T l tl σ H ds) (hz : ds.length ≤ 1000000 := by first | decide | (simp only [List.length_cons, List.length_nil]; decide)) : PuE K T l (tTup tl) σ H (.tuple ds) := fun H1 k1 Q q => h H1 k1 _ fun vs H2 k2 rs => by
  refine ⟨le_line (by rw [rs.length]; exact hz), fun p hp => q (.ref p) _ (k2.trans (Kp.new hp)) ?_⟩
  exact .tup (SqT.of (off_some ((hl.kp (k1.trans k2)).new hp) upd_same)) (rs.kp (T := T) (Kp.new hp))
theorem pu_lst (hl : Th l H) (h : PuA K T l tl σ H ds) (hz : ds.length ≤ 1000000 := by first | decide | (simp only [List.length_cons, List.length_nil]; decide)) : PuE K T l (tLst tl) σ H (.list ds) := fun H1 k1 Q q => h H1 k1 _ fun vs H2 k2 rs => by
  refine ⟨le_line (by rw [rs.length]; exact hz), fun p hp => q (.ref p) _ (k2.trans (Kp.new hp)) ?_⟩
  exact .lst (off_some ((hl.kp (k1.trans k2)).new hp) upd_same) (rs.kp (T := T) (Kp.new hp))
theorem Rp.int_inv {v : V} {i : Int} (h : Rp K H v (.int i)) : v = .int i := by cases h; rfl
theorem Rp.str_inv {v : V} {i : Str} (h : Rp K H v (.str i)) : v = .str i := by cases h; rfl
theorem Rp.bl_inv {v : V} {i : Bool} (h : Rp K H v (.bool i)) : v = .bl i := by cases h; rfl
theorem Rp.list_inv {v : V} (h : Rp K H v (.list ds)) : ∃ a xs, v = .ref a ∧ H a = some (.lst xs) ∧ RpA K H xs ds := by
  cases h with
  | lst h1 h2 => exact ⟨_, _, rfl, h1, h2⟩
theorem Rp.tup_inv {v : V} (h : Rp K H v (.tuple ds)) : ∃ a xs, v = .ref a ∧ SqT K H a xs ∧ RpA K H xs ds := by
  cases h with
  | tup h1 h2 => exact ⟨_, _, rfl, h1, h2⟩
theorem pu_addI {i j : Int} (h1 : PuE K T l ta σ H (.int i)) (h2 : PuE K T l tb σ H (.int j)) : PuE K T l (tOp (rI0 fun i j => .int (i + j)) ta tb) σ H (.int (i + j)) := fun H1 k1 Q q =>
  h1 H1 k1 _ fun v H2 k2 r => h2 H2 (k1.trans k2) _ fun u H3 k3 s => ⟨i, j, r.int_inv, s.int_inv, q _ H3 (k2.trans k3) (.int _)⟩
theorem pu_ltI {i j : Int} (h1 : PuE K T l ta σ H (.int i)) (h2 : PuE K T l tb σ H (.int j)) : PuE K T l (tOp (rI0 fun i j => .bl (decide (i < j))) ta tb) σ H (.bool (decide (i < j))) := fun H1 k1 Q q =>
  h1 H1 k1 _ fun v H2 k2 r => h2 H2 (k1.trans k2) _ fun u H3 k3 s => ⟨i, j, r.int_inv, s.int_inv, q _ H3 (k2.trans k3) (.bl _)⟩
theorem pu_eqS {i j : Str} (h1 : PuE K T l ta σ H (.str i)) (h2 : PuE K T l tb σ H (.str j)) : PuE K T l (tOp rEq ta tb) σ H (.bool (decide (i = j))) := fun H1 k1 Q q =>
  h1 H1 k1 _ fun v H2 k2 r => h2 H2 (k1.trans k2) _ fun u H3 k3 s => by
    rw [r.str_inv, s.str_inv]
    refine ⟨rfl, ?_⟩
    rw [show decide (V.str i = V.str j) = decide (i = j) by rw [Bool.eq_iff_iff]; simp]
    exact q _ H3 (k2.trans k3) (.bl _)
theorem pu_neS {i j : Str} (h1 : PuE K T l ta σ H (.str i)) (h2 : PuE K T l tb σ H (.str j)) : PuE K T l (tOp rNe ta tb) σ H (.bool (!decide (i = j))) := fun H1 k1 Q q =>
  h1 H1 k1 _ fun v H2 k2 r => h2 H2 (k1.trans k2) _ fun u H3 k3 s => by
    rw [r.str_inv, s.str_inv]
    refine ⟨rfl, ?_⟩
    rw [show decide (V.str i = V.str j) = decide (i = j) by rw [Bool.eq_iff_iff]; simp]
    exact q _ H3 (k2.trans k3) (.bl _)
theorem pu_neD (h1 : PuE K T l ta σ H d) (h2 : PuE K T l tb σ H e) (n1 : noD d = true) (n2 : noD e = true) (s1 : SeqAt.shaped d = true) (s2 : SeqAt.shaped e = true) : PuE K T l (tOp (rNeD K) ta tb) σ H (.bool (!PyData.eqv d e)) := fun H1 k1 Q q =>
  h1 H1 k1 _ fun v H2 k2 r => h2 H2 (k1.trans k2) _ fun u H3 k3 s => ⟨d, e, ((r.kp k3).ke Ke.off).dp n1, (s.ke Ke.off).dp n2, s1, s2, q _ H3 (k2.trans k3) (.bl _)⟩
theorem pu_eqD (h1 : PuE K T l ta σ H d) (h2 : PuE K T l tb σ H e) (n1 : noD d = true) (n2 : noD e = true) (s1 : SeqAt.shaped d = true) (s2 : SeqAt.shaped e = true) : PuE K T l (tOp (rEqD K) ta tb) σ H (.bool (PyData.eqv d e)) := fun H1 k1 Q q =>
  h1 H1 k1 _ fun v H2 k2 r => h2 H2 (k1.trans k2) _ fun u H3 k3 s => ⟨d, e, ((r.kp k3).ke Ke.off).dp n1, (s.ke Ke.off).dp n2, s1, s2, q _ H3 (k2.trans k3) (.bl _)⟩
theorem pu_cat (hl : Th l H) (h1 : PuE K T l ta σ H (.list ds)) (h2 : PuE K T l tb σ H (.list es)) (hz : ds.length + es.length ≤ 1000000) : PuE K T l (tOp rCat ta tb) σ H (.list (ds ++ es)) := fun H1 k1 Q q =>
  h1 H1 k1 _ fun v H2 k2 r => h2 H2 (k1.trans k2) _ fun u H3 k3 s => by
    obtain ⟨a, xs, rfl, e1, r1⟩ := r.list_inv
    obtain ⟨c, ys, rfl, e2, r2⟩ := s.list_inv
    have z1 := r1.length
    have z2 := r2.length
    refine ⟨a, c, xs, ys, rfl, rfl, k3.lst (by simp) (of_off e1).2, (of_off e2).2, le_line (by omega), fun p hp => q _ _ ((k2.trans k3).trans (Kp.new hp)) ?_⟩
    exact .lst (off_some ((hl.kp ((k1.trans k2).trans k3)).new hp) upd_same) (((r1.kp k3).append r2).kp (T := T) (Kp.new hp))
theorem RpA.take {xs : List V} : ∀ (n : Nat) {xs : List V} {ds : List PyData}, RpA K H xs ds → RpA K H (xs.take n) (ds.take n)
  | 0, _, _, _ => by simp; exact .nil
  | n + 1, _, _, .nil => .nil
  | n + 1, _, _, .cons h t => .cons h (RpA.take (xs := []) n t)
theorem RpA.drop {xs : List V} : ∀ (n : Nat) {xs : List V} {ds : List PyData}, RpA K H xs ds → RpA K H (xs.drop n) (ds.drop n)
  | 0, _, _, h => h
  | n + 1, _, _, .nil => .nil
  | n + 1, _, _, .cons _ t => RpA.drop (xs := []) n t
theorem cutV_takeN (xs : List V) (k : Nat) : cutV xs none (some (k : Int)) = xs.take k := by
  unfold cutV
  rw [HT.sIx_none, HT.sIx_nat, List.drop_zero, Nat.sub_zero, List.take_eq_take_iff]
  omega
theorem cutV_dropN (xs : List V) (k : Nat) : cutV xs (some (k : Int)) none = xs.drop k := by
  unfold cutV
  rw [HT.sIx_none, HT.sIx_nat]
  by_cases h : k ≤ xs.length
  · rw [Nat.min_eq_left h, List.take_of_length_le (by rw [List.length_drop]; omega)]
  · rw [Nat.min_eq_right (by omega), List.drop_of_length_le (by omega : xs.length ≤ xs.length), List.drop_of_length_le (by omega : xs.length ≤ k)]
    simp
theorem pu_take (hl : Th l H) {k : Nat} (h : PuE K T l te σ H (.list ds)) (hk : PuE K T l ta σ H (.int (k : Int))) : PuE K T l (tSl (rSlL K) te tNoPart (tPart ta)) σ H (.list (ds.take k)) := fun H1 k1 Q q =>
  h H1 k1 _ fun v H2 k2 r => hk H2 (k1.trans k2) _ fun u H3 k3 s => by
    obtain ⟨a, xs, rfl, e1, r1⟩ := r.list_inv
    refine ⟨(k : Int), s.int_inv, a, xs, rfl, SqL.of (k3.lst (by simp) (of_off e1).2), fun p hp => ?_⟩
    rw [cutV_takeN]
    exact q _ _ ((k2.trans k3).trans (Kp.new hp)) (.lst (off_some ((hl.kp ((k1.trans k2).trans k3)).new hp) upd_same) (((RpA.take (xs := []) k (r1.kp k3))).kp (T := T) (Kp.new hp)))
theorem pu_drop (hl : Th l H) {k : Nat} (h : PuE K T l te σ H (.list ds)) (hk : PuE K T l ta σ H (.int (k : Int))) : PuE K T l (tSl (rSlL K) te (tPart ta) tNoPart) σ H (.list (ds.drop k)) := fun H1 k1 Q q =>
  h H1 k1 _ fun v H2 k2 r => hk H2 (k1.trans k2) _ fun u H3 k3 s => by
    obtain ⟨a, xs, rfl, e1, r1⟩ := r.list_inv
    refine ⟨(k : Int), s.int_inv, a, xs, rfl, SqL.of (k3.lst (by simp) (of_off e1).2), fun p hp => ?_⟩
    rw [cutV_dropN]
    exact q _ _ ((k2.trans k3).trans (Kp.new hp)) (.lst (off_some ((hl.kp ((k1.trans k2).trans k3)).new hp) upd_same) (((RpA.drop (xs := []) k (r1.kp k3))).kp (T := T) (Kp.new hp)))
theorem pu_ix {t : Bool} {i : Nat} (h : PuE K T l te σ H (if t then .list ds else .tuple ds)) (hi : PuE K T l ta σ H (.int (i : Int))) (e : ds[i]? = some d) : PuE K T l (tOp (rIx K) te ta) σ H d := fun H1 k1 Q q =>
  h H1 k1 _ fun v H2 k2 r => hi H2 (k1.trans k2) _ fun u H3 k3 s => by
    rw [s.int_inv]
    cases t with
    | true =>
      obtain ⟨a, xs, rfl, e1, r1⟩ := Rp.list_inv r
      obtain ⟨x, ex, rx⟩ := r1.getD e
      exact .inl ⟨a, xs, _, x, rfl, rfl, SqL.of (k3.lst (by simp) (of_off e1).2), atI_nat ex, q _ H3 (k2.trans k3) (rx.kp k3)⟩
    | false =>
      obtain ⟨a, xs, rfl, e1, r1⟩ := Rp.tup_inv r
      obtain ⟨x, ex, rx⟩ := r1.getD e
      exact .inr (.inl ⟨a, xs, _, x, rfl, rfl, k3.ke0.tq (Ke.off.tq e1), atI_nat ex, q _ H3 (k2.trans k3) (rx.kp k3)⟩)
theorem pt_test (h : PuE K T l te σ H (.bool b)) : PuT T (tTest te) σ H b := fun H1 k1 Q q => h H1 k1 _ fun v H2 k2 r => ⟨b, r.bl_inv, q H2 k2⟩
theorem pt_b (h : PuE K T l te σ H (.bool b)) : PuT T (tB te) σ H b := fun H1 k1 Q q => h H1 k1 _ fun v H2 k2 r => ⟨b, r.bl_inv, q H2 k2⟩
theorem pt_and (h : PuT T tt σ H b) (h2 : b = true → PuT T tu σ H c) : PuT T (tAnd tt tu) σ H (b && c) := fun H1 k1 Q q => h H1 k1 _ fun H2 k2 => by
  cases b with
  | true => exact iteT (h2 rfl H2 (k1.trans k2) _ fun H3 k3 => q H3 (k2.trans k3))
  | false => exact iteF (q H2 k2)
theorem pt_or (h : PuT T tt σ H b) (h2 : b = false → PuT T tu σ H c) : PuT T (tOr tt tu) σ H (b || c) := fun H1 k1 Q q => h H1 k1 _ fun H2 k2 => by
  cases b with
  | true => exact iteT (q H2 k2)
  | false => exact iteF (h2 rfl H2 (k1.trans k2) _ fun H3 k3 => q H3 (k2.trans k3))
theorem pt_nt (h : PuT T tt σ H b) : PuT T (tNot tt) σ H (!b) := fun H1 k1 Q q => h H1 k1 _ fun H2 k2 => q H2 k2
theorem pt_yes : PuT T tYes σ H true := fun H1 _ Q q => q H1 Kp.refl
theorem PuT.is (h : PuT T tt σ H b) (z : b = c) : PuT T tt σ H c := z ▸ h
theorem pu_if (h : PuT T tt σ H b) (h1 : b = true → PuE K T l ta σ H d) (h2 : b = false → PuE K T l tb σ H d) : PuE K T l (tIf tt ta tb) σ H d := fun H1 k1 Q q => h H1 k1 _ fun H2 k2 => by
  cases b with
  | true => exact iteT (h1 rfl H2 (k1.trans k2) _ fun v H3 k3 r => q v H3 (k2.trans k3) r)
  | false => exact iteF (h2 rfl H2 (k1.trans k2) _ fun v H3 k3 r => q v H3 (k2.trans k3) r)
theorem pu_notV (h : PuE K T l te σ H (.bool b)) : PuE K T l (tNotV te) σ H (.bool (!b)) := fun H1 k1 Q q => h H1 k1 _ fun v H2 k2 r => ⟨b, r.bl_inv, q _ H2 k2 (.bl _)⟩
theorem pu_len {t : Bool} (h : PuE K T l te σ H (if t then .list ds else .tuple ds)) : PuE K T l (tCB (rLenX K) (tCons te tNil)) σ H (.int (ds.length : Int)) := fun H1 k1 Q q => h H1 k1 _ fun v H2 k2 r => by
  refine ⟨v, ds.length, rfl, ?_, q _ H2 k2 (.int _)⟩
  cases t with
  | true =>
    obtain ⟨a, xs, rfl, e1, r1⟩ := Rp.list_inv r
    exact .inl ⟨xs, SqL.of (of_off e1).2, r1.length.symm⟩
  | false =>
    obtain ⟨a, xs, rfl, e1, r1⟩ := Rp.tup_inv r
    exact .inr (.inl ⟨xs, Ke.off.tq e1, r1.length.symm⟩)
theorem rpA_bl_inv {bs : List Bool} : ∀ {vs : List V}, RpA K H vs (bs.map PyData.bool) → vs = bs.map V.bl := by
  induction bs with
  | nil => intro vs h; cases h; rfl
  | cons b r ih =>
    intro vs h
    rw [List.map_cons] at h
    cases h with
    | cons h t => rw [h.bl_inv, ih t]; rfl
theorem pu_all {bs : List Bool} (h : PuE K T l te σ H (.list (bs.map .bool))) : PuE K T l (tCB (rAll K) (tCons te tNil)) σ H (.bool (bs.all id)) := fun H1 k1 Q q => h H1 k1 _ fun v H2 k2 r => by
  obtain ⟨a, xs, rfl, e1, r1⟩ := r.list_inv
  rw [rpA_bl_inv r1] at e1
  exact ⟨a, bs, rfl, SqL.of (of_off e1).2, q _ H2 k2 (.bl _)⟩
theorem pu_any {bs : List Bool} (h : PuE K T l te σ H (.list (bs.map .bool))) : PuE K T l (tCB (rAny K) (tCons te tNil)) σ H (.bool (bs.any id)) := fun H1 k1 Q q => h H1 k1 _ fun v H2 k2 r => by
  obtain ⟨a, xs, rfl, e1, r1⟩ := r.list_inv
  rw [rpA_bl_inv r1] at e1
  exact ⟨a, bs, rfl, SqL.of (of_off e1).2, q _ H2 k2 (.bl _)⟩
end
/-! ### dicts with text keys -/
def dV {α : Type} (enc : α → PyData) (r : List (Str × α)) : PyData := .dict (r.map fun p => (.str p.1, enc p.2))
def sget {α : Type} (r : List (Str × α)) (n : Str) : Option α := (r.find? fun q => decide (q.1 = n)).map (·.2)
def put1 {α : Type} (r : List (Str × α)) (n : Str) (a : α) : List (Str × α) := if r.any (fun p => decide (p.1 = n)) then r.map fun p => if p.1 = n then (p.1, a) else p else r ++ [(n, a)]
def mrg {α : Type} (r : List (Str × α)) : List (Str × α) := r.foldl (fun acc p => put1 acc p.1 p.2) []
section
variable {α : Type} {enc : α → PyData} {K : PySem.W.Frag} {H : Hp}
theorem rpD_get : ∀ {r : List (Str × α)} {xs : List (Key × V)}, RpD K H xs (r.map fun p => (.str p.1, enc p.2)) → ∀ n : Str, match sget r n with
    | some a => ∃ v, valV xs (Sum.inr n) = some v ∧ Rp K H v (enc a)
    | none => valV xs (Sum.inr n) = none
  | [], xs, h, n => by cases h; rfl
  | p :: r, xs, h, n => by
    rw [List.map_cons] at h
    generalize ekd : (PyData.str p.1, enc p.2) = kd at h
    cases h with
    | cons h t =>
      rename_i k v vs d
      injection ekd with e1 e2
      have ek : k = Sum.inr p.1 := by
        cases k with
        | inl i => cases e1
        | inr x => cases e1; rfl
      subst ek
      unfold sget
      rw [List.find?_cons]
      by_cases hn : p.1 = n
      · rw [decide_eq_true hn]
        exact ⟨v, valV_pos (by rw [hn]), e2 ▸ h⟩
      · rw [decide_eq_false hn, valV_neg (fun z => hn (by cases z; rfl))]
        exact rpD_get t n
theorem rpD_put {r : List (Str × α)} {xs : List (Key × V)} {n : Str} {v : V} {a : α} (h : RpD K H xs (r.map fun p => (.str p.1, enc p.2))) (hv : Rp K H v (enc a)) : RpD K H (putK xs (Sum.inr n) v) ((put1 r n a).map fun p => (.str p.1, enc p.2)) := by
  have keys : ∀ {r : List (Str × α)} {xs : List (Key × V)}, RpD K H xs (r.map fun p => (.str p.1, enc p.2)) → (xs.any fun kv => decide (kv.1 = Sum.inr n)) = r.any fun p => decide (p.1 = n) := fun {r} => by
    induction r with
    | nil => intro xs h; cases h; rfl
    | cons p r ih =>
      intro xs h
      rw [List.map_cons] at h
      generalize ekd : (PyData.str p.1, enc p.2) = kd at h
      cases h with
      | cons h t =>
        rename_i k v vs d
        injection ekd with e1 e2
        have ek : k = Sum.inr p.1 := by
          cases k with
          | inl i => cases e1
          | inr x => cases e1; rfl
        subst ek
        rw [List.any_cons, List.any_cons, ih t]
        congr 1
        rw [Bool.eq_iff_iff]
        simp
  have hm : ∀ {r : List (Str × α)} {xs : List (Key × V)}, RpD K H xs (r.map fun p => (.str p.1, enc p.2)) → RpD K H (xs.map fun kv => if kv.1 = Sum.inr n then (kv.1, v) else kv) ((r.map fun p => if p.1 = n then (p.1, a) else p).map fun p => (.str p.1, enc p.2)) := fun {r} => by
    induction r with
    | nil => intro xs h; cases h; exact .nil
    | cons p r ih =>
      intro xs h
      rw [List.map_cons] at h
      generalize ekd : (PyData.str p.1, enc p.2) = kd at h
      cases h with
      | cons h t =>
        rename_i k v' vs d
        injection ekd with e1 e2
        have ek : k = Sum.inr p.1 := by
          cases k with
          | inl i => cases e1
          | inr x => cases e1; rfl
        subst ek
        rw [List.map_cons, List.map_cons, List.map_cons]
        by_cases hn : p.1 = n
        · rw [if_pos (by rw [hn]), if_pos hn]
          exact .cons (k := Sum.inr p.1) hv (ih t)
        · rw [if_neg (fun z => hn (by cases z; rfl)), if_neg hn]
          exact .cons (k := Sum.inr p.1) (e2 ▸ h) (ih t)
  have happ : ∀ {r : List (Str × α)} {xs : List (Key × V)}, RpD K H xs (r.map fun p => (.str p.1, enc p.2)) → RpD K H (xs ++ [(Sum.inr n, v)]) ((r ++ [(n, a)]).map fun p => (.str p.1, enc p.2)) := fun {r} => by
    induction r with
    | nil => intro xs h; cases h; exact .cons (k := Sum.inr n) hv .nil
    | cons p r ih =>
      intro xs h
      rw [List.map_cons] at h
      generalize ekd : (PyData.str p.1, enc p.2) = kd at h
      cases h with
      | cons h t =>
        rename_i k v' vs d
        rw [List.cons_append, List.cons_append, List.map_cons, ekd]
        exact .cons h (ih t)
  have ek := keys h
  unfold putK put1
  by_cases hb : (r.any fun p => decide (p.1 = n)) = true
  · rw [if_pos hb, if_pos (by rw [ek]; exact hb)]
    exact hm h
  · rw [if_neg hb, if_neg (by rw [ek]; exact hb)]
    exact happ h
theorem rpD_mrg {r : List (Str × α)} {xs : List (Key × V)} (h : RpD K H xs (r.map fun p => (.str p.1, enc p.2))) : RpD K H (mergeK [] xs) ((mrg r).map fun p => (.str p.1, enc p.2)) := by
  have go : ∀ {r acc : List (Str × α)} {xs ys : List (Key × V)}, RpD K H ys (acc.map fun p => (.str p.1, enc p.2)) → RpD K H xs (r.map fun p => (.str p.1, enc p.2)) → RpD K H (xs.foldl (fun a p => putK a p.1 p.2) ys) ((r.foldl (fun acc p => put1 acc p.1 p.2) acc).map fun p => (.str p.1, enc p.2)) := fun {r} => by
    induction r with
    | nil => intro acc xs ys ha h; cases h; exact ha
    | cons p r ih =>
      intro acc xs ys ha h
      rw [List.map_cons] at h
      generalize ekd : (PyData.str p.1, enc p.2) = kd at h
      cases h with
      | cons h t =>
        rename_i k v' vs d
        injection ekd with e1 e2
        have ek : k = Sum.inr p.1 := by
          cases k with
          | inl i => cases e1
          | inr x => cases e1; rfl
        subst ek
        exact ih (acc := put1 acc p.1 p.2) (ys := putK ys (Sum.inr p.1) v') (rpD_put ha (e2 ▸ h)) t
  exact go .nil h
/-- pairs of a text and a thing, as keys and values -/
theorem rpA_pairs : ∀ {r : List (Str × α)} {xs : List V}, RpA K H xs (r.map fun p => .tuple [.str p.1, enc p.2]) → ∃ (ps : List Addr) (kvs : List (Key × V)), xs = ps.map V.ref ∧ Paired (fun p kv => SqT K H p [kV kv.1, kv.2]) ps kvs ∧ RpD K H kvs (r.map fun p => (.str p.1, enc p.2))
  | [], xs, h => by cases h; exact ⟨[], [], rfl, .nil, .nil⟩
  | p :: r, xs, h => by
    rw [List.map_cons] at h
    cases h with
    | cons h t =>
      obtain ⟨ps, kvs, rfl, h1, h2⟩ := rpA_pairs t
      obtain ⟨a, ys, rfl, e1, r1⟩ := h.tup_inv
      cases r1 with
      | cons q1 r1 =>
      cases r1 with
      | cons q2 r1 =>
      cases r1
      rw [q1.str_inv] at e1
      exact ⟨a :: ps, (Sum.inr p.1, _) :: kvs, rfl, .cons e1 h1, .cons (k := Sum.inr p.1) q2 h2⟩
theorem rpD_keys : ∀ {r : List (Str × α)} {xs : List (Key × V)}, RpD K H xs (r.map fun p => (.str p.1, enc p.2)) → xs.map (fun kv => kV kv.1) = (r.map (·.1)).map V.str
  | [], xs, h => by cases h; rfl
  | p :: r, xs, h => by
    rw [List.map_cons] at h
    generalize ekd : (PyData.str p.1, enc p.2) = kd at h
    cases h with
    | cons h t =>
      rename_i k v' vs d
      injection ekd with e1 e2
      have ek : k = Sum.inr p.1 := by
        cases k with
        | inl i => cases e1
        | inr x => cases e1; rfl
      subst ek
      rw [List.map_cons, rpD_keys t]
      rfl
theorem rpA_itemsD : ∀ {r : List (Str × α)} {xs : List (Key × V)} {ts : List Addr}, RpD K H xs (r.map fun p => (.str p.1, enc p.2)) → Paired (fun (t : Addr) (q : Key × V) => H t = some (.tup [kV q.1, q.2])) ts xs → RpA K H (ts.map V.ref) (r.map fun p => .tuple [.str p.1, enc p.2])
  | [], xs, ts, h, hp => by cases h; cases hp; exact .nil
  | p :: r, xs, ts, h, hp => by
    rw [List.map_cons] at h
    generalize ekd : (PyData.str p.1, enc p.2) = kd at h
    cases h with
    | cons h t =>
      rename_i k v' vs d
      injection ekd with e1 e2
      have ek : k = Sum.inr p.1 := by
        cases k with
        | inl i => cases e1
        | inr x => cases e1; rfl
      subst ek
      cases hp with
      | cons hp tp => exact .cons (.tup (SqT.of hp) (.cons (.str _) (.cons (e2 ▸ h) .nil))) (rpA_itemsD t tp)
end
end Sky
set_option Elab.async false
set_option linter.all false
set_option maxRecDepth 100000
set_option maxHeartbeats 4000000
namespace Sky
open PySem PySem.Spec PyProof.Rows L2 LamX NdefX
/-- two spaces are equal -/
def spEqB (S1 S2 : SpD) : Bool := dEq S1.rooms S2.rooms && (PyData.eqv (.list (S1.homes.map .str)) (.list (S2.homes.map .str)) && PyData.eqv (.list (S1.lanes.map lnD)) (.list (S2.lanes.map lnD)))
theorem shaped_strs (zs : List Str) (h : ∀ z ∈ zs, PyData.strOk z = true) : SeqAt.shaped (.list (zs.map PyData.str)) = true := by
  have e1 : ∀ zs : List Str, (∀ z ∈ zs, PyData.strOk z = true) → PyData.canLayAll0 (zs.map PyData.str) = true := fun zs => by
    induction zs with
    | nil => intro _; simp [PyData.canLayAll0]
    | cons z r ih =>
      intro h
      simp [PyData.canLayAll0, PyData.canLay0, ih fun y hy => h y (List.mem_cons_of_mem _ hy), h z (List.mem_cons_self ..)]
  have e2 : ∀ zs : List Str, PyData.depthAll (zs.map PyData.str) = 0 := fun zs => by
    induction zs with
    | nil => simp [PyData.depthAll]
    | cons z r ih => simp [PyData.depthAll, PyData.depth, ih]
  simp [SeqAt.shaped, PyData.canLay0, e1 zs h, PyData.depth, e2]
theorem shaped_lanes (zs : List (Str × Str × Int)) (h : ∀ p ∈ zs, PyData.strOk p.1 = true ∧ PyData.strOk p.2.1 = true) : SeqAt.shaped (.list (zs.map lnD)) = true := by
  have e1 : ∀ zs : List (Str × Str × Int), (∀ p ∈ zs, PyData.strOk p.1 = true ∧ PyData.strOk p.2.1 = true) → PyData.canLayAll0 (zs.map lnD) = true := fun zs => by
    induction zs with
    | nil => intro _; simp [PyData.canLayAll0]
    | cons z r ih =>
      intro h
      obtain ⟨h1, h2⟩ := h z (List.mem_cons_self ..)
      simp [PyData.canLayAll0, PyData.canLay0, lnD, ih fun y hy => h y (List.mem_cons_of_mem _ hy), h1, h2]
  have e2 : ∀ zs : List (Str × Str × Int), PyData.depthAll (zs.map lnD) ≤ 1 := fun zs => by
    induction zs with
    | nil => simp [PyData.depthAll]
    | cons z r ih => simp [PyData.depthAll, PyData.depth, lnD]; omega
  have e3 := e2 zs
  simp [SeqAt.shaped, PyData.canLay0, e1 zs h, PyData.depth]
  omega
/-- its texts are texts -/
structure TxS (S : SpD) : Prop where
  h : ∀ z ∈ S.homes, PyData.strOk z = true
  l : ∀ p ∈ S.lanes, PyData.strOk p.1 = true ∧ PyData.strOk p.2.1 = true
theorem nm_ok {z : Str} (h : nmS z = true) : PyData.strOk z = true := by
  unfold nmS at h
  simp only [Bool.and_eq_true, decide_eq_true_eq, List.all_eq_true] at h
  have hl : ∀ c ∈ letters.cps.toList, c < 0x110000 := by decide +kernel
  unfold PyData.strOk
  rw [Array.all_eq_true]
  intro i hi
  have := hl _ (h.2.2 z.cps[i] (by simp))
  simpa using this
theorem OkSp.tx {rooms : List (Str × Int)} {homes : List Str} {lanes : List (Str × Str × Int)} (h : OkSp rooms homes lanes) : TxS (srtS rooms homes lanes) := by
  have hr : ∀ z ∈ rooms.map (·.1), PyData.strOk z = true := fun z hz => by
    obtain ⟨p, hp, rfl⟩ := List.mem_map.mp hz
    exact nm_ok (h.nm p hp).1
  have hh : ∀ z ∈ homes, PyData.strOk z = true := fun z hz => nm_ok (h.hm z hz).1
  refine ⟨fun z hz => hh z ((srtBy_perm _ _).mem_iff.mp hz), fun p hp => ?_⟩
  have q := h.ln p ((srtBy_perm _ _).mem_iff.mp hp)
  exact ⟨hr _ q.1, q.2.1.elim (hr _) (hh _)⟩
section
variable {P : Program} {w : World} {K : PySem.W.Frag} {mg : Str → Option Value} {base : Heap} {T : List NTab} {C : Addr}
/-- the three parts of a space that tell it -/
structure Sp3 (K : PySem.W.Frag) (C : Addr) (H : Hp) (x : Addr) (S : SpD) : Prop where
  r : SpR C H x S.rooms
  h : SpH C H x S.homes
  l : SpL K C H x S.lanes
theorem SpAt.sp3 {H : Hp} {x : Addr} {S : SpD} (h : SpAt K C H x S) : Sp3 K C H x S := ⟨h.r, h.h, h.l⟩
abbrev s_eq : Stmt := inClass (top 15) 5
abbrev n_eq : List Str := ["self", "other"]
theorem sc_eq : FnScope n_eq ["self", "other"] (defScope s_eq) := ⟨rfl, rfl, rfl, by decide +kernel, rfl, by decide +kernel, by decide +kernel⟩
def sp_eq (K : PySem.W.Frag) (C : Addr) : Sp := fun vs H Q _ => ∃ x y S, vs = [.ref x, y] ∧ Sp3 K C H x S ∧ TxS S ∧ ((∃ g, TgOf K H y g ∧ Q (.bl false) H) ∨ ∃ b S2, y = .ref b ∧ Sp3 K C H b S2 ∧ TxS S2 ∧ Q (.bl (spEqB S S2)) H)
theorem rIsi_own {H : Hp} {x : Addr} {rooms : List (Str × Int)} (h : SpR C H x rooms) : Kd K C H (.ref x) true := by
  obtain ⟨r, ⟨dx, fs, h1, _⟩, _⟩ := h
  exact .own h1
theorem d_eq (B : Blt mg) (cs : ClsS K mg C) (ic : IsCls K C) (F : MetFn K C "__eq__" "Space.__eq__" s_eq) : MetOk P w K mg base 1 C "__eq__" (sp_eq K C) := by
  refine F.ok sc_eq (fun _ _ _ _ _ _ us hl => match us, hl with | [_, _], _ => rfl) (fun vs H Q E h => ?_) (fun f cdv A outer s H vs Q E hr h => ?_)
  · obtain ⟨x, y, S, rfl, _⟩ := h
    rfl
  · obtain ⟨x, y, S, rfl, h1, tx1, h2⟩ := h
    refine ⟨_, (pss_cons (ps_if (pt_not (pt_val (e_isiO ic B (pa_cons (pv 1) (pa_cons (pe_glob (v := .ref C) rfl cs.mgC rfl) pa_nil))))) (pss_one (ps_ret pe_bl)) pss_nil)
      (pss_cons (ps_if (pw_or (pt_cmpR (op_neDI hr.units0) (pe_fld (pv 0) rfl) (pe_fld (pv 1) rfl) (nomark _)) (pw_or1 (pt_cmpR (op_neD hr.units) (pe_fld (pv 0) rfl) (pe_fld (pv 1) rfl) (nomark _)))).pt (pss_one (ps_ret pe_bl)) pss_nil)
      (pss_one (ps_ret (pe_cmpR (op_eqD hr.units) (pe_fld (pv 0) rfl) (pe_fld (pv 1) rfl) (nomark _)))))), ?_⟩
    rcases h2 with ⟨g, tg, k⟩ | ⟨b, S2, rfl, h2, tx2, k⟩
    · exact ⟨_, rfl, y, false, rfl, .dat tg, _, rfl, iteT k⟩
    · obtain ⟨r1, ⟨dx, fs, a1, a2⟩, a3⟩ := h1.r
      obtain ⟨r2, ⟨dy, gs, b1, b2⟩, b3⟩ := h2.r
      obtain ⟨p1, ⟨_, _, c1, c2⟩, c3⟩ := h1.h
      obtain ⟨p2, ⟨_, _, d1, d2⟩, d3⟩ := h2.h
      obtain ⟨q1, ls1, ⟨_, _, e1, e2⟩, e3, e4⟩ := h1.l
      obtain ⟨q2, ls2, ⟨_, _, f1, f2⟩, f3, f4⟩ := h2.l
      refine ⟨_, rfl, _, true, rfl, .own b1, _, rfl, iteF ⟨_, rfl, x, C, dx, fs, _, rfl, a1, cs.cl, cs.nR, a2, _, rfl, b, C, dy, gs, _, rfl, b1, cs.cl, cs.nR, b2, r1, r2, S.rooms, S2.rooms, rfl, rfl, a3, b3, _, rfl, ?_⟩⟩
      unfold spEqB at k
      cases hd : dEq S.rooms S2.rooms with
      | false =>
        rw [hd] at k
        exact iteT (iteT k)
      | true =>
        rw [hd] at k
        refine iteF ⟨_, rfl, x, C, _, _, _, rfl, c1, cs.cl, cs.nH, c2, _, rfl, b, C, _, _, _, rfl, d1, cs.cl, cs.nH, d2, .list (S.homes.map .str), .list (S2.homes.map .str), .lst (SqL.of c3) ((rpA_strs _).dp (noDA_map _ fun _ => rfl)), .lst (SqL.of d3) ((rpA_strs _).dp (noDA_map _ fun _ => rfl)), shaped_strs _ tx1.h, shaped_strs _ tx2.h, _, rfl, ?_⟩
        cases hh : PyData.eqv (.list (S.homes.map .str)) (.list (S2.homes.map .str)) with
        | false =>
          rw [hh] at k
          exact iteT k
        | true =>
          rw [hh] at k
          exact iteF ⟨_, rfl, x, C, _, _, _, rfl, e1, cs.cl, cs.nL, e2, _, rfl, b, C, _, _, _, rfl, f1, cs.cl, cs.nL, f2, .list (S.lanes.map lnD), .list (S2.lanes.map lnD), .lst (SqL.of e3) (e4.dp (noDA_map _ fun _ => rfl)), .lst (SqL.of f3) (f4.dp (noDA_map _ fun _ => rfl)), shaped_lanes _ tx1.l, shaped_lanes _ tx2.l, k⟩
end
end Sky
set_option Elab.async false
set_option linter.all false
set_option maxRecDepth 100000
set_option maxHeartbeats 4000000
namespace Sky
open PySem PySem.Spec PyProof.Rows L2 LamX NdefX
/-! ### names as texts -/
def sg (c : Nat) : Str := ⟨#[c]⟩
def ltr (k : Nat) : Nat := letters.cps.toList.getD k 0
theorem ltr_at {k : Nat} (h : k < 26) : letters.cps.toList[k]? = some (ltr k) := by
  have e : letters.cps.toList.length = 26 := by decide +kernel
  unfold ltr
  rw [List.getD_eq_getElem?_getD]
  rw [List.getElem?_eq_getElem (by omega)]
  rfl
theorem ltr_inj : ∀ i j, i < 26 → j < 26 → ltr i = ltr j → i = j := fun i j hi hj e => by
  have nd : letters.cps.toList.Nodup := by decide +kernel
  have e1 := ltr_at hi
  have e2 := ltr_at hj
  rw [← e] at e2
  exact (List.getElem?_inj (List.getElem?_eq_some_iff.mp e1).1 nd).mp (e1.trans e2.symm)
theorem ltr_mem {k : Nat} (h : k < 26) : ltr k ∈ letters.cps.toList := List.mem_of_getElem? (ltr_at h)
def mkS (l : List Nat) : Str := ⟨l.toArray⟩
theorem mkS_inj {l m : List Nat} (h : mkS l = mkS m) : l = m := by
  unfold mkS at h
  injection h with h
  simpa using h
theorem mkS_len (l : List Nat) : (mkS l).length = l.length := by simp [mkS, Str.length]
theorem mkS_append (l m : List Nat) : mkS l ++ mkS m = mkS (l ++ m) := by
  have e : (mkS l ++ mkS m).cps = (mkS (l ++ m)).cps := by
    rw [Str.cps_append]
    simp [mkS]
  revert e
  generalize mkS l ++ mkS m = y
  intro e
  cases y
  exact congrArg Str.mk e
theorem nm_mk {l : List Nat} (h1 : 1 ≤ l.length) (h2 : l.length ≤ 8) (h3 : ∀ c ∈ l, c ∈ letters.cps.toList) : nmS (mkS l) = true := by
  unfold nmS
  rw [mkS_len, decide_eq_true (by omega : 0 < l.length), decide_eq_true (by omega : l.length < 9)]
  simp only [Bool.true_and, List.all_eq_true, decide_eq_true_eq]
  intro c hc
  exact h3 c (by simpa [mkS] using hc)
theorem join_sg : ∀ cs : List Nat, Txt.join ("" : Str) (cs.map sg) = mkS cs := fun cs => by
  have go : ∀ cs : List Nat, Str.join ("" : Str) (cs.map sg) = mkS cs := fun cs => by
    induction cs with
    | nil => rfl
    | cons c r ih =>
      cases r with
      | nil => rfl
      | cons d r =>
        have e : Str.join ("" : Str) ((c :: d :: r).map sg) = sg c ++ ("" : Str) ++ Str.join ("" : Str) ((d :: r).map sg) := rfl
        rw [e, ih]
        have e2 : sg c ++ ("" : Str) = mkS [c] := by
          have : ("" : Str) = mkS [] := by decide +kernel
          rw [this]
          exact mkS_append [c] []
        rw [e2, mkS_append]
        rfl
  exact (StrLaws.glued_eq_join _ _).trans (go cs)
theorem sum_sg (cs : List Nat) : ((cs.map sg).map (·.length)).sum = cs.length := by
  induction cs with
  | nil => rfl
  | cons c r ih =>
    rw [List.map_cons, List.map_cons, List.sum_cons, ih]
    show 1 + r.length = r.length + 1
    omega
theorem cut3 (l : List Nat) : cutS (mkS l) none (some 3) = mkS (l.take 3) := by
  unfold cutS mkS
  have e : HT.sIx (Str.length ⟨l.toArray⟩) (Str.length ⟨l.toArray⟩) (some 3) = min 3 l.length := by
    rw [show (some (3 : Int)) = some ((3 : Nat) : Int) from rfl, HT.sIx_nat]
    simp [Str.length]
  rw [e, HT.sIx_none]
  congr 1
  simp only [List.drop_zero, Nat.sub_zero]
  congr 1
  rw [List.take_eq_take_iff]
  simp
theorem itemI {K : PySem.W.Frag} {H : Hp} {a : Addr} {ns : List Int} (h : SqL K H a (ns.map V.int)) : Item K H (.ref a) ns.length (fun j => .int (ns.getD j 0)) := by
  refine .inl ⟨a, _, rfl, .inl h, by rw [List.length_map], fun j v e => ?_⟩
  rw [List.getElem?_map] at e
  obtain ⟨n, en, rfl⟩ := Option.map_eq_some_iff.mp e
  show V.int (ns.getD j 0) = _
  rw [List.getD_eq_getElem?_getD, en]
  rfl
section
variable {P : Program} {w : World} {K : PySem.W.Frag} {mg : Str → Option Value} {base : Heap} {T : List NTab}
abbrev s_names : Stmt := top 26
abbrev n_names : List Str := ["stream", "many", "found", "signs", "k", "name", "at", "one"]
theorem sc_names : FnScope n_names ["stream", "many"] (defScope s_names) := ⟨rfl, rfl, rfl, by decide +kernel, rfl, by decide +kernel, by decide +kernel⟩
def sp_names (K : PySem.W.Frag) (T : List NTab) : Sp := fun vs H Q _ => ∃ (st sc : Addr) (m b : Nat), vs = [.ref st, .int (m : Int)] ∧ StrAt b st sc H ∧ m ≤ 600 ∧ b + 5 * m < 2 ^ 48 ∧
  ∀ (L : Addr) (ns : List Str) (H' : Hp), H L = none → Kp T [st, sc] H H' → H' L = some (.lst (ns.map V.str)) → L ≠ st → L ≠ sc → ns.length = m → ns.Nodup → (∀ z ∈ ns, nmS z = true ∧ z.length ≤ 5) → StrAt (b + 5 * m) st sc H' → Q (.ref L) H'
theorem d_names (B : Blt mg) (Gd : DefOk P w K mg base 1 "_law_draw" (sp_draw K T)) (Gp : DefOk P w K mg base 2 "_law_pick" (sp_pick K T)) (F : TopFn K mg "_law_names" s_names) : DefOk P w K mg base 3 "_law_names" (sp_names K T) := by
  refine F.ok sc_names (fun _ _ _ _ _ _ us hl => match us, hl with | [_, _], _ => rfl) (fun vs H Q E h => ?_) (fun f cdv A outer s H vs Q E hr h => ?_)
  · obtain ⟨st, sc, m, b, rfl, _⟩ := h
    rfl
  · obtain ⟨st, sc, m, b, rfl, hS, hm, hb, k⟩ := h
    refine ⟨_, (pss_cons (ps_asg (pe_tup (pa_cons (pe_lst pa_nil) (pa_cons pe_str pa_nil))) (pg_tup rfl (pgs_cons (pg_name (i := 2) sc_names.nd rfl (Or.inl rfl)) (pgs_cons (pg_name (i := 3) sc_names.nd rfl (Or.inr rfl)) pgs_nil))))
      (pss_cons (ps_for PassesOwn.never rfl (pi_range1 rfl B.range (pa_cons (pv 1) pa_nil)) (pg_name (i := 4) sc_names.nd rfl (Or.inl rfl)) (pss_cons (ps_set (i := 5) sc_names.nd rfl (Or.inl rfl) (pe_join pe_str (pe_lc (own := [("one", 7)]) (g := gName 7) (tt := tYes) (by rfl) sc_names.nd (pi_range1 rfl B.range (pa_cons (pe_op op_add pe_int (pe_d Gd hr (pa_cons (pv 0) (pa_cons (pe_d Gp hr (pa_cons (pv 0) (pa_cons (pe_lst (pa_cons pe_int (pa_cons pe_int (pa_cons pe_int pa_nil)))) pa_nil))) pa_nil)))) pa_nil)) (blkOk_by (N := n_names) (sc := defScope s_names) (by decide +kernel)) (fun _ _ _ _ _ => (pg_name (i := 7) sc_names.nd rfl (Or.inl rfl))) (fun _ _ _ _ _ => pts_nil) (fun _ _ _ _ _ => (pe_d Gp hr (pa_cons (pv 0) (pa_cons (pv 3) pa_nil)))))))
      (pss_cons (ps_for PassesOwn.never rfl (pi_range1 rfl B.range (pa_cons (pe_op op_add (e_len B (pa_cons (pv 2) pa_nil)) pe_int) pa_nil)) (pg_name (i := 6) sc_names.nd rfl (Or.inl rfl)) (pss_one (ps_if (pt_cmpR op_in_seq (pv 5) (pv 2) (by with_unfolding_all rfl)) (pss_one (ps_set (i := 5) sc_names.nd rfl (Or.inl rfl) (pe_op op_add_str (pe_op op_add_str (pe_slice sl_str (pv 5) po_none (po_some pe_int)) (pe_ix ix_seq (pv 3) (pe_op op_fdiv (pv 6) pe_int) (fun _ _ => rfl))) (pe_ix ix_seq (pv 3) (pe_op op_mod (pv 6) pe_int) (fun _ _ => rfl))))) pss_nil)))
      (pss_one (ps_expr (pe_bm PySem.F.plainAttrs_list PySem.F.slot_list_append PySem.F.type_list_append mt_append (pv 2) (pa_cons (pv 5) pa_nil)))))))
      (pss_one (ps_ret (pv 2))))), ?_⟩
    refine ⟨by decide, fun L hL => ⟨by show 2 ≤ sizeLine; decide, fun p hp => ⟨p, _, rfl, SqT.of upd_same, rfl, _, _, rfl, _, _, rfl, rfl, ?_⟩⟩⟩
    have npL : p ≠ L := fun z => by rw [z, upd_same] at hp; cases hp
    obtain ⟨⟨_, e1⟩, ⟨_, e2⟩⟩ := hS.some
    have n1 : L ≠ st := none_ne e1 hL
    have n2 : L ≠ sc := none_ne e2 hL
    have K1 : Kp T [] H (upd (upd H L (.lst [])) p (.tup [.ref L, .str letters])) := (Kp.new hL).trans (Kp.new hp)
    have hL1 : (upd (upd H L (.lst [])) p (.tup [.ref L, .str letters])) L = some (.lst []) := by rw [upd_ne npL.symm, upd_same]
    show (tSeq _ _) _ _ (upd (upd H L (.lst [])) p (.tup [.ref L, .str letters]))
    generalize (upd (upd H L (.lst [])) p (.tup [.ref L, .str letters])) = H1 at K1 hL1 ⊢
    refine ⟨_, rfl, _, rfl, by omega, by omega, ?_⟩
    rw [show ((m : Nat) : Int).toNat = m by omega]
    refine for_range (lo := 0) (n := m) (fun i σ H' => ∃ (ns : List Str) (x4 x5 x6 : Option V), σ = [some (.ref st), some (.int (m : Int)), some (.ref L), some (.str letters), x4, x5, x6, none] ∧ H' L = some (.lst (ns.map V.str)) ∧ Kp T [L, st, sc] H H' ∧ ns.length = i ∧ ns.Nodup ∧ (∀ z ∈ ns, nmS z = true ∧ z.length ≤ 5) ∧ StrAt (b + 5 * i) st sc H')
      ⟨[], none, none, none, rfl, hL1, K1.mono (by simp), rfl, List.nodup_nil, (fun z hz => by cases hz), hS.kp K1 (by simp) (by simp)⟩ ?_ ?_
    · rintro i σ H2 hi ⟨ns, x4, x5, x6, rfl, hL2, k2, hl, nd, hnm, S2⟩
      -- name = "".join([_law_pick(stream, signs) for one in range(1 + ..)])
      refine ⟨⟨_, rfl⟩, _, rfl, _, rfl, by show 3 ≤ sizeLine; decide, fun q hq => ?_⟩
      have S3 : StrAt (b + 5 * i) st sc (upd H2 q (.lst [.int 1, .int 1, .int 3])) := S2.kp (Kp.new (T := T) (l := []) hq) (by simp) (by simp)
      have nq1 : q ≠ st := none_ne S2.some.1.choose_spec hq
      have nq2 : q ≠ sc := none_ne S2.some.2.choose_spec hq
      refine ⟨st, sc, .ref q, b + 5 * i, 3, fun j => .int (([1, 1, 3] : List Int).getD j 0), rfl, S3, by omega, itemI (ns := [1, 1, 3]) (SqL.of (off_some (by simp [nq1, nq2]) upd_same)), by decide, by decide, fun j H4 hj k4 S4 => ?_⟩
      obtain ⟨d, ed, hd1, hd2⟩ : ∃ d : Nat, ([1, 1, 3] : List Int).getD j 0 = (d : Int) ∧ 1 ≤ d ∧ d ≤ 3 := by
        match j, hj with
        | 0, _ => exact ⟨1, rfl, by decide, by decide⟩
        | 1, _ => exact ⟨1, rfl, by decide, by decide⟩
        | 2, _ => exact ⟨3, rfl, by decide, by decide⟩
      refine ⟨st, sc, (d : Int), b + 5 * i + 1, by show [V.ref st, V.int (([1, 1, 3] : List Int).getD j 0)] = _; rw [ed], S4, by omega, by omega, by omega, fun r H5 r0 r1 k5 S5 => ?_⟩
      obtain ⟨u, rfl⟩ : ∃ u : Nat, r = (u : Int) := ⟨r.toNat, by omega⟩
      have kq : Kp T [st, sc] H2 H5 := ((Kp.new hq).trans k4).trans k5
      refine ⟨_, _, rfl, rfl, _, rfl, by omega, by omega, fun D hD => ?_⟩
      rw [show ((1 : Int) + (u : Int)).toNat = u + 1 by omega]
      obtain ⟨⟨_, e3⟩, ⟨_, e4⟩⟩ := S5.some
      have nD1 : D ≠ st := none_ne e3 hD
      have nD2 : D ≠ sc := none_ne e4 hD
      refine lc_acc walk_range T [st, sc] hD (by simp [nD1, nD2]) (Nat.le_trans (by omega : u + 1 ≤ 4) (by decide)) (fun j acc H' => StrAt (b + 5 * i + 2 + j) st sc H' ∧ ∃ cs : List Nat, acc = cs.map (fun c => V.str (sg c)) ∧ cs.length = j ∧ ∀ c ∈ cs, c ∈ letters.cps.toList)
        ⟨S5.off nD1 nD2, [], rfl, rfl, fun c hc => by cases hc⟩ (fun _ _ => trivial) (fun j y acc H' H'' Q' Qn hj hn k' hDa R y' hk _ => ?_) fun H6 acc k' R hDa _ => ?_
      · obtain ⟨S', cs, rfl, hc1, hc2⟩ := R
        obtain ⟨rfl, rfl⟩ := y'
        refine ⟨rfl, _, rfl, _, rfl, st, sc, .str letters, b + 5 * i + 2 + j, 26, fun j => .str (sg (ltr j)), rfl, S'.of_off, by omega, .inr ⟨letters, rfl, by decide +kernel, by decide, fun j c e => ?_⟩, by decide, by decide, fun j2 H7 hj2 k7 S7 => hk _ H7 k7 ⟨S7.off nD1 nD2, cs ++ [ltr j2], by rw [List.map_append]; rfl, by rw [List.length_append, hc1]; rfl, fun c hc => ?_⟩⟩
        · show V.str (sg (ltr j)) = _
          unfold ltr
          rw [List.getD_eq_getElem?_getD, e]
          rfl
        · rcases List.mem_append.mp hc with hc | hc
          · exact hc2 c hc
          · cases List.mem_singleton.mp hc
            exact ltr_mem hj2
      · obtain ⟨S', cs, rfl, hc1, hc2⟩ := R
        have S6 := S'.of_off
        have k6 : Kp T [st, sc] H2 H6 := kq.trans (k'.drop hD)
        refine ⟨"", D, cs.map sg, rfl, rfl, .inl (SqL.of (by rw [List.map_map]; exact hDa)), ?_, ?_⟩
        · rw [sum_sg]
          have e0 : ("" : Str).length = 0 := by decide +kernel
          rw [e0, List.length_map]
          omega
        rw [join_sg]
        have hL6 : H6 L = some (.lst (ns.map V.str)) := k6.lst (by simp [n1, n2]) hL2
        -- the names behind it
        refine ⟨_, rfl, _, ns.length, rfl, .inl ⟨_, SqL.of hL6, by rw [List.length_map]⟩, _, _, rfl, rfl, _, rfl, by omega, by omega, ?_⟩
        rw [show ((ns.length : Int) + 1).toNat = ns.length + 1 by omega]
        have c1 : 1 ≤ cs.length := by omega
        have c3 : cs.length ≤ 3 := by omega
        refine for_range (lo := 0) (n := ns.length + 1) (fun t σ H' => ∃ (j : Nat) (x6 : Option V), σ = [some (.ref st), some (.int (m : Int)), some (.ref L), some (.str letters), some (.int (0 + (i : Int))), some (.str (mkS (trL ltr cs j))), x6, none] ∧ H' = H6 ∧ j ≤ t ∧ (∀ r, r < j → mkS (trL ltr cs r) ∈ ns) ∧ (j < t → mkS (trL ltr cs j) ∉ ns))
          ⟨0, _, rfl, rfl, Nat.le_refl _, (fun r hr => absurd hr (Nat.not_lt_zero _)), fun h => absurd h (Nat.lt_irrefl _)⟩ ?_ ?_
        · rintro t σ H7 ht ⟨j, x6, rfl, rfl, hj, hm1, hm2⟩
          have lb := trL_le (a := ltr) c1 c3 j
          refine ⟨_, rfl, _, rfl, L, _, rfl, .inl (SqL.of hL6), rfl, all_flat ns, _, rfl, ?_⟩
          rw [inV_strs]
          by_cases hmem : mkS (trL ltr cs j) ∈ ns
          · rw [decide_eq_true hmem]
            have ej : j = t := by
              by_cases h : j < t
              · exact (hm2 h hmem).elim
              · omega
            subst ej
            have ed : ((0 : Int) + (j : Int)) / 26 = ((j / 26 : Nat) : Int) := by omega
            have er : ((0 : Int) + (j : Int)) % 26 = ((j % 26 : Nat) : Int) := by omega
            have h26 : j / 26 < 26 := by omega
            refine iteT ⟨_, rfl, _, rfl, _, rfl, by rw [mkS_len]; exact Nat.le_trans lb.2 (by decide), ?_⟩
            rw [cut3]
            refine ⟨_, rfl, _, rfl, _, _, rfl, rfl, ⟨by decide, by decide⟩, .inr (.inr ⟨letters, _, ltr (j / 26), rfl, rfl, by decide, by rw [ed]; exact atI_nat (ltr_at h26), _, _, rfl, rfl, ?_, ?_⟩)⟩
            · rw [mkS_len, List.length_take]
              show min 3 _ + 1 ≤ sizeLine
              exact Nat.le_trans (by omega : min 3 (trL ltr cs j).length + 1 ≤ 4) (by decide)
            refine ⟨_, rfl, _, rfl, _, _, rfl, rfl, (by decide : (0 : Int) < 26), .inr (.inr ⟨letters, _, ltr (j % 26), rfl, rfl, by decide, by rw [er]; exact atI_nat (ltr_at (Nat.mod_lt _ (by decide))), _, _, rfl, rfl, ?_, ?_⟩)⟩
            · show (mkS ((trL ltr cs j).take 3) ++ mkS [ltr (j / 26)]).length + 1 ≤ sizeLine
              rw [mkS_append, mkS_len, List.length_append, List.length_take]
              exact Nat.le_trans (by simp only [List.length_cons, List.length_nil]; omega : min 3 (trL ltr cs j).length + [ltr (j / 26)].length + 1 ≤ 5) (by decide)
            · have e : (mkS ((trL ltr cs j).take 3) ++ sg (ltr (j / 26))) ++ sg (ltr (j % 26)) = mkS (trL ltr cs (j + 1)) := by
                show (mkS ((trL ltr cs j).take 3) ++ mkS [ltr (j / 26)]) ++ mkS [ltr (j % 26)] = mkS (nxL ltr (trL ltr cs j) j)
                rw [mkS_append, mkS_append]
                unfold nxL
                rw [List.append_assoc]
                rfl
              refine ⟨j + 1, _, by rw [← e]; rfl, rfl, Nat.le_refl _, fun r hr => ?_, fun h => absurd h (Nat.lt_irrefl _)⟩
              rcases Nat.lt_succ_iff_lt_or_eq.mp hr with h | rfl
              · exact hm1 r h
              · exact hmem
          · rw [decide_eq_false hmem]
            exact iteF ⟨j, _, rfl, rfl, by omega, hm1, fun _ => hmem⟩
        · rintro σ H7 ⟨j, x6, rfl, rfl, hj, hm1, hm2⟩
          have hj' : j < ns.length + 1 := by
            rcases Nat.lt_or_ge j (ns.length + 1) with h | h
            · exact h
            · have nd2 : ((List.range (ns.length + 1)).map fun r => mkS (trL ltr cs r)).Nodup := range_nodup fun r t hrt ht e => trL_ne ltr_inj c1 c3 hrt (by omega) (mkS_inj e)
              have q := pigeon nd2 fun x hx => by
                obtain ⟨r, hr, rfl⟩ := List.mem_map.mp hx
                exact hm1 r (by have := List.mem_range.mp hr; omega)
              rw [List.length_map, List.length_range] at q
              omega
          have lb := trL_le (a := ltr) c1 c3 j
          have hnew := hm2 hj'
          refine ⟨_, rfl, .inl ⟨rfl, _, SqL.of hL6⟩, _, rfl, L, _, _, rfl, rfl, hL6, by rw [List.length_map]; exact Nat.lt_of_le_of_lt (by omega : ns.length ≤ 600) (by decide), ?_⟩
          refine ⟨ns ++ [mkS (trL ltr cs j)], _, _, _, rfl, by rw [upd_same, List.map_append]; rfl, k2.trans ((k6.mono (by simp)).trans (Kp.upd (by simp) hL6)), by rw [List.length_append, hl]; rfl, ?_, fun z hz => ?_, ?_⟩
          · refine List.nodup_append.mpr ⟨nd, List.nodup_cons.mpr ⟨(fun z => by cases z), List.nodup_nil⟩, fun x hx y hy => ?_⟩
            cases List.mem_singleton.mp hy
            intro e
            exact hnew (e ▸ hx)
          · rcases List.mem_append.mp hz with hz | hz
            · exact hnm z hz
            · cases List.mem_singleton.mp hz
              exact ⟨nm_mk lb.1 (by omega) (trL_all (fun c => c ∈ letters.cps.toList) (fun k hk => ltr_mem hk) hc2 j (by omega)), by rw [mkS_len]; exact lb.2⟩
          · exact (S6.kp (Kp.upd (T := T) (l := [L]) (by simp) hL6) (by simp [n1.symm]) (by simp [n2.symm])).mono (by omega)
    · rintro σ H2 ⟨ns, x4, x5, x6, rfl, hL2, k2, hl, nd, hnm, S2⟩
      exact ⟨_, rfl, k L ns H2 hL (k2.drop hL) hL2 n1 n2 hl nd hnm S2⟩
end
end Sky
set_option Elab.async false
set_option linter.all false
set_option maxRecDepth 100000
set_option maxHeartbeats 4000000
namespace Sky
open PySem PySem.Spec PyProof.Rows L2 LamX NdefX
section
variable {X : Cx} {e : Expr} {es : List Expr} {t : TA} {p pos : Pos}
theorem e_min2 (B : Blt X.mg) (ha : PA X (e :: es) t) (hc : X.calm = true := by rfl) (hg : Gl X "min" := by rfl) (hpl : (backTo pos (starEach es X.env)).any (·.1) = false := by rfl) (he : starEach (e :: es) X.env = (false, eval e X.env) :: starEach es X.env := by rfl) :
    PE X (.Call (.Name "min" p) (e :: es) [] pos) (tCB (fun xs H Q => ∃ i j, xs = [.int i, .int j] ∧ Q (.int (if j < i then j else i)) H) t) := pe_callB (call_min2 hc) hg B.min (by decide +kernel) ha (by decide) (by decide) he hpl
end
theorem cutV_take (xs : List V) (k : Nat) : cutV xs none (some (k : Int)) = xs.take k := by
  unfold cutV
  rw [HT.sIx_none, HT.sIx_nat, List.drop_zero, Nat.sub_zero, List.take_eq_take_iff]
  omega
theorem cutV_drop (xs : List V) (k : Nat) : cutV xs (some (k : Int)) none = xs.drop k := by
  unfold cutV
  rw [HT.sIx_none, HT.sIx_nat]
  by_cases h : k ≤ xs.length
  · rw [Nat.min_eq_left h, List.take_of_length_le (by rw [List.length_drop]; omega)]
  · rw [Nat.min_eq_right (by omega), List.drop_of_length_le (by omega : xs.length ≤ xs.length), List.drop_of_length_le (by omega : xs.length ≤ k)]
    simp
theorem take_drop_dj {ns : List Str} (nd : ns.Nodup) {k : Nat} {z : Str} (h1 : z ∈ ns.take k) (h2 : z ∈ ns.drop k) : False := by
  have q := nd
  rw [← List.take_append_drop k ns] at q
  exact (List.nodup_append.mp q).2.2 z h1 z h2 rfl
theorem filt_step {ns : List Str} (p : Str → Bool) {i : Nat} {z : Str} (ez : ns[i]? = some z) : (ns.take (i + 1)).filter p = (ns.take i).filter p ++ [z].filter p := by
  rw [List.take_add_one, ez, List.filter_append]
  rfl
theorem filt_drop {ns : List Str} (nd : ns.Nodup) {k : Nat} : ns.filter (fun z => !decide (z ∈ ns.take k)) = ns.drop k := by
  have e : ns.filter (fun z => !decide (z ∈ ns.take k)) = (ns.take k ++ ns.drop k).filter (fun z => !decide (z ∈ ns.take k)) := by rw [List.take_append_drop]
  rw [e, List.filter_append]
  have e1 : (ns.take k).filter (fun z => !decide (z ∈ ns.take k)) = [] := List.filter_eq_nil_iff.mpr fun z hz => by simp [hz]
  have e2 : (ns.drop k).filter (fun z => !decide (z ∈ ns.take k)) = ns.drop k := List.filter_eq_self.mpr fun z hz => by
    have : z ∉ ns.take k := fun h => take_drop_dj nd h hz
    simp [this]
  rw [e1, e2]
  rfl
theorem items_strs {K : PySem.W.Frag} {H : Hp} {a : Addr} {ns : List Str} (h : SqL K H a (ns.map V.str)) : Item K H (.ref a) ns.length (fun j => .str (ns.getD j "")) := by
  refine .inl ⟨a, _, rfl, .inl h, by rw [List.length_map], fun j v e => ?_⟩
  rw [List.getElem?_map] at e
  obtain ⟨n, en, rfl⟩ := Option.map_eq_some_iff.mp e
  show V.str (ns.getD j "") = _
  rw [List.getD_eq_getElem?_getD, en]
  rfl
theorem getD_mem {α : Type} {l : List α} {i : Nat} {d : α} (h : i < l.length) : l.getD i d ∈ l := by
  rw [List.getD_eq_getElem?_getD, List.getElem?_eq_getElem h]
  exact List.getElem_mem h
theorem at_last {ns : List Str} (h : 1 ≤ ns.length) : atI (ns.map V.str) (-1) = some (V.str (ns.getD (ns.length - 1) "")) := by
  obtain ⟨init, z, rfl⟩ : ∃ init z, ns = init ++ [z] := ⟨ns.dropLast, ns.getLast (by intro e; rw [e] at h; cases h), (List.dropLast_concat_getLast _).symm⟩
  rw [List.map_append]
  have e := atI_last (init.map V.str) (V.str z)
  show atI (init.map V.str ++ [V.str z]) (-1) = _
  rw [e, List.getD_eq_getElem?_getD]
  simp
theorem at_strs {ns : List Str} {i : Nat} (h : i < ns.length) : atI (ns.map V.str) ((i : Nat) : Int) = some (V.str (ns.getD i "")) := by
  refine atI_nat ?_
  rw [List.getElem?_map, List.getD_eq_getElem?_getD, List.getElem?_eq_getElem h]
  rfl
/-- the other end of a pair -/
theorem other_rd {K : PySem.W.Frag} {T : List NTab} {σ : L2.St} {H H' : Hp} {Q : VK} {st sc HL IN PL : Addr} {hs ins : List Str} {c n at_ : Nat} {w : Int} (I : SpI T H st sc HL IN PL hs ins c n H') (A : Ap H st sc HL IN PL) (hc : c < 2 ^ 48)
    (h0 : σ[0]? = some (some (.ref st))) (h5 : σ[5]? = some (some (.ref IN))) (h7 : σ[7]? = some (some (.int w))) (h8 : σ[8]? = some (some (.int (at_ : Int)))) (ha : at_ < ins.length) (hz : ins.length ≤ 1000)
    (k : ∀ o H3, o ∈ ins → SpI T H st sc HL IN PL hs ins (c + 1) n H3 → Kp T [st, sc] H' H3 → Q (.str o) H3) :
    tIf (tTest (tOp rEq (tVar 7) (tC (.int 1)))) (tOp (rIxL K) (tVar 5) (tC (.int 0))) (tIf (tTest (tOp rEq (tVar 7) (tC (.int 2)))) (tD (sp_pick K T) (tCons (tVar 0) (tCons (tSl (rSlL K) (tVar 5) tNoPart (tPart (tOp (rI0 fun i j => .int (i + j)) (tVar 8) (tC (.int 1))))) tNil))) (tOp (rIxL K) (tVar 5) (tVar 8))) σ H' Q := by
  have I1 := I.mono (Nat.le_succ c) (Nat.le_refl n)
  refine ⟨_, h7, rfl, _, rfl, ite2 (fun _ => ?_) fun _ => ⟨_, h7, rfl, _, rfl, ite2 (fun _ => ?_) fun _ => ?_⟩⟩
  · exact ⟨_, h5, _, _, (0 : Int), _, rfl, rfl, SqL.of I.i, at_strs (i := 0) (by omega), k _ H' (getD_mem (by omega)) I1 Kp.refl⟩
  · refine ⟨_, h0, _, h5, _, h8, _, _, rfl, rfl, _, rfl, IN, _, rfl, SqL.of I.i, fun X hX => ?_⟩
    have e : cutV (ins.map V.str) none (some ((at_ : Int) + 1)) = (ins.take (at_ + 1)).map V.str := by
      rw [show (at_ : Int) + 1 = ((at_ + 1 : Nat) : Int) by omega, cutV_take, List.map_take]
    rw [e]
    have kx : Kp T [] H' (upd H' X (.lst ((ins.take (at_ + 1)).map V.str))) := Kp.new hX
    have Ix := I.new kx
    have nx1 : X ≠ st := none_ne I.s.some.1.choose_spec hX
    have nx2 : X ≠ sc := none_ne I.s.some.2.choose_spec hX
    have hl : (ins.take (at_ + 1)).length = at_ + 1 := by rw [List.length_take]; omega
    refine ⟨st, sc, .ref X, c, (ins.take (at_ + 1)).length, _, rfl, Ix.s, hc, items_strs (SqL.of (off_some (by simp [nx1, nx2]) upd_same)), by omega, by omega, fun j H3 hj k3 S3 => ?_⟩
    exact k _ H3 (List.mem_of_mem_take (getD_mem hj)) (Ix.step A k3 S3) ((kx.mono (by simp)).trans k3)
  · exact ⟨_, h5, _, h8, _, _, _, _, rfl, rfl, SqL.of I.i, at_strs ha, k _ H' (getD_mem ha) I1 Kp.refl⟩
/-- a lane's cost drawn and put down -/
theorem paired_map {α β γ : Type} {R : α → β → Prop} {R' : α → γ → Prop} {f : β → γ} {xs : List α} {ys : List β} (h : Paired R xs ys) (hf : ∀ x y, R x y → R' x (f y)) : Paired R' xs (ys.map f) := by
  induction h with
  | nil => exact .nil
  | cons h _ ih => exact .cons (hf _ _ h) ih
theorem put_rd {K : PySem.W.Frag} {T : List NTab} {D : Ends} {σ : L2.St} {H H' : Hp} {st sc HL IN PL DL : Addr} {hs ins : List Str} {c n : Nat} {kvs : List (List Key × V)} {x y : Str} (I : SpI T H st sc HL IN PL hs ins c n H') (A : Ap H st sc HL IN PL) (hc : c + 2 < 2 ^ 48)
    (h0 : σ[0]? = some (some (.ref st))) (h9 : σ[9]? = some (some (.str x))) (h10 : σ[10]? = some (some (.str y))) (h13 : σ[13]? = some (some (.ref DL))) (hD : H' DL = some (.dT kvs)) (hz : kvs.length < sizeLine) (nD1 : DL ≠ st) (nD2 : DL ≠ sc) (hn : H DL = none)
    (k : ∀ (u : Int) H2, 1 ≤ u → u ≤ 5 → SpI T H st sc HL IN PL hs ins (c + 2) n H2 → H2 DL = some (.dT (putK kvs [Sum.inr x, Sum.inr y] (.int u))) → Kp T [DL, st, sc] H' H2 → D.nx σ H2) :
    sDPut (tVar 13) (tTup (tCons (tVar 9) (tCons (tVar 10) tNil))) (tD (sp_pick K T) (tCons (tVar 0) (tCons (tLst (tCons (tC (.int 1)) (tCons (tC (.int 1)) (tCons (tC (.int 1)) (tCons (tC (.int 2)) (tCons (tOp (rI0 fun i j => .int (i + j)) (tC (.int 1)) (tD (sp_draw K T) (tCons (tVar 0) (tCons (tC (.int 4)) tNil)))) tNil)))))) tNil))) D σ H' := by
  refine ⟨_, h0, _, h0, st, sc, 4, c, rfl, I.s, by decide, by decide, by omega, fun r H3 r0 r1 k3 S3 => ⟨_, _, rfl, rfl, by show 5 ≤ sizeLine; decide, fun q hq => ?_⟩⟩
  have I3 := I.step A k3 S3
  have hD3 := k3.dT (by simp [nD1, nD2]) hD
  have kq : Kp T [] H3 (upd H3 q (.lst ([1, 1, 1, 2, 1 + r].map V.int))) := Kp.new hq
  have I4 := I3.new kq
  have hD4 := kq.dT (by simp) hD3
  have nq1 : q ≠ st := none_ne I3.s.some.1.choose_spec hq
  have nq2 : q ≠ sc := none_ne I3.s.some.2.choose_spec hq
  refine ⟨st, sc, .ref q, c + 1, 5, _, rfl, I4.s, by omega, itemI (ns := [1, 1, 1, 2, 1 + r]) (SqL.of (off_some (by simp [nq1, nq2]) upd_same)), by decide, by decide, fun j H5 hj k5 S5 => ?_⟩
  have I5 := I4.step A k5 S5
  have hD5 := k5.dT (by simp [nD1, nD2]) hD4
  have hu : 1 ≤ ([1, 1, 1, 2, 1 + r] : List Int).getD j 0 ∧ ([1, 1, 1, 2, 1 + r] : List Int).getD j 0 ≤ 5 := by
    match j, hj with
    | 0, _ => exact ⟨by show (1 : Int) ≤ 1; decide, by show (1 : Int) ≤ 5; decide⟩
    | 1, _ => exact ⟨by show (1 : Int) ≤ 1; decide, by show (1 : Int) ≤ 5; decide⟩
    | 2, _ => exact ⟨by show (1 : Int) ≤ 1; decide, by show (1 : Int) ≤ 5; decide⟩
    | 3, _ => exact ⟨by show (1 : Int) ≤ 2; decide, by show (2 : Int) ≤ 5; decide⟩
    | 4, _ => exact ⟨by show 1 ≤ 1 + r; omega, by show 1 + r ≤ 5; omega⟩
  refine ⟨_, h13, _, h9, _, h10, by show 2 ≤ sizeLine; decide, fun p hp => ?_⟩
  have kp : Kp T [] H5 (upd H5 p (.tup [.str x, .str y])) := Kp.new hp
  have hD6 := kp.dT (by simp) hD5
  refine ⟨DL, _, rfl, DPut.t (k := [Sum.inr x, Sum.inr y]) hD6 upd_same hz, k _ _ hu.1 hu.2 ((I5.new kp).updT hD6 hn) upd_same ((((k3.mono (by simp)).trans (kq.mono (by simp))).trans ((k5.mono (by simp)).trans (kp.mono (by simp)))).trans (kp_updT (by simp) hD6))⟩
section
variable {P : Program} {w : World} {K : PySem.W.Frag} {mg : Str → Option Value} {base : Heap} {T : List NTab}
abbrev s_space : Stmt := top 27
abbrev n_space : List Str := ["stream", "most", "least", "names", "homes", "inner", "pairs", "way", "at", "one", "other", "k", "home", "lanes", "thin", "rooms", "name"]
theorem sc_space : FnScope n_space ["stream", "most", "least"] (defScope s_space) := ⟨rfl, rfl, rfl, by decide +kernel, rfl, by decide +kernel, by decide +kernel⟩
def dictD (rooms : List (Str × Int)) : PyData := .dict (rooms.map fun p => (.str p.1, .int p.2))
/-- a space as a tuple of its parts -/
def spD (S : SpD) : PyData := .tuple [dictD S.rooms, .list (S.homes.map .str), .list (S.lanes.map lnD)]
def spc (m : Nat) : Nat := 30 * m + 300
def sp_space (K : PySem.W.Frag) (T : List NTab) : Sp := fun vs H Q _ => ∃ (st sc : Addr) (l : List Addr) (m least b : Nat), vs = [.ref st, .int (m : Int), .int (least : Int)] ∧ StrAt b st sc H ∧ Hid l st sc H ∧ 1 ≤ m ∧ m ≤ 500 ∧ 1 ≤ least ∧ least ≤ 1000000 ∧ b + spc m < 2 ^ 48 ∧
  ∀ (v : V) (S : SpD) (H' : Hp), Kp T [st, sc] H H' → Rp K (off l H') v (spD S) → OkSp S.rooms S.homes S.lanes → S.rooms.length + S.homes.length ≤ m + 2 → S.homes.length ≤ 3 → S.lanes.length ≤ 2 * m + 20 → (∀ p ∈ S.rooms, p.2 ≤ (least : Int) + 2) → (∀ p ∈ S.lanes, p.2.2 ≤ 5) → (∀ z, z ∈ S.rooms.map (·.1) ∨ z ∈ S.homes → z.length ≤ 5) → StrAt (b + spc m) st sc H' → Q v H'
theorem d_space (B : Blt mg) (Gd : DefOk P w K mg base 1 "_law_draw" (sp_draw K T)) (Gp : DefOk P w K mg base 2 "_law_pick" (sp_pick K T)) (Gn : DefOk P w K mg base 3 "_law_names" (sp_names K T)) (F : TopFn K mg "_law_space" s_space) : DefOk P w K mg base 4 "_law_space" (sp_space K T) := by
  refine F.ok sc_space (fun _ _ _ _ _ _ us hl => match us, hl with | [_, _, _], _ => rfl) (fun vs H Q E h => ?_) (fun f cdv A outer s H vs Q E hr h => ?_)
  · obtain ⟨st, sc, l, m, least, b, rfl, _⟩ := h
    rfl
  · obtain ⟨st, sc, l, m, least, b, rfl, hS, hL, hm1, hm2, hl1, hl2, hb, k⟩ := h
    refine ⟨_, (pss_cons (ps_set (i := 3) sc_space.nd rfl (Or.inl rfl) (pe_d Gn hr (pa_cons (pv 0) (pa_cons (pe_op op_add pe_int (pe_d Gd hr (pa_cons (pv 0) (pa_cons (pv 1) pa_nil)))) pa_nil))))
      (pss_cons (ps_asg (pe_tup (pa_cons (pe_slice sl_list (pv 3) po_none (po_some (pe_op op_add pe_int (pe_d Gd hr (pa_cons (pv 0) (pa_cons (e_min2 B (pa_cons pe_int (pa_cons (pe_op op_sub (e_len B (pa_cons (pv 3) pa_nil)) pe_int) pa_nil))) pa_nil)))))) (pa_cons (pe_lst pa_nil) pa_nil))) (pg_tup rfl (pgs_cons (pg_name (i := 4) sc_space.nd rfl (Or.inr rfl)) (pgs_cons (pg_name (i := 5) sc_space.nd rfl (Or.inr rfl)) pgs_nil))))
      (pss_cons (ps_set (i := 5) sc_space.nd rfl (Or.inr rfl) (pe_lc (own := [("name", 16)]) (g := gName 16) (tt := tTest (tOp (rIn K true) (tVar 16) (tVar 4))) (by rfl) sc_space.nd (pi_seq (pv 3)) (blkOk_by (N := n_space) (sc := defScope s_space) (by decide +kernel)) (fun _ _ _ _ _ => (pg_name (i := 16) sc_space.nd rfl (Or.inl rfl))) (fun _ _ _ _ _ => (pts_one (pt_cmpR op_notIn_seq (pv 16) (pv 4) (by with_unfolding_all rfl)))) (fun _ _ _ _ _ => (pv 16))))
      (pss_cons (ps_par (i := 6) (j := 7) rfl sc_space.nd rfl rfl (by decide) rfl rfl (pa_cons (pe_lst pa_nil) (pa_cons (pe_d Gd hr (pa_cons (pv 0) (pa_cons pe_int pa_nil))) pa_nil)) rfl)
      (pss_cons (ps_for PassesOwn.never rfl (pi_enumS B.enumerate (pa_cons (pe_slice sl_list (pv 5) (po_some pe_int) po_none) pa_nil)) (pg_tup rfl (pgs_cons (pg_name (i := 8) sc_space.nd rfl (Or.inl rfl)) (pgs_cons (pg_name (i := 9) sc_space.nd rfl (Or.inl rfl)) pgs_nil))) (pss_cons (ps_set (i := 10) sc_space.nd rfl (Or.inl rfl) (pe_ifExp (pt_cmpR op_eq (pv 7) pe_int (nomark _)) (pe_ix ix_list (pv 5) pe_int (fun _ _ => rfl)) (pe_ifExp (pt_cmpR op_eq (pv 7) pe_int (nomark _)) (pe_d Gp hr (pa_cons (pv 0) (pa_cons (pe_slice sl_list (pv 5) po_none (po_some (pe_op op_add (pv 8) pe_int))) pa_nil))) (pe_ix ix_list (pv 5) (pv 8) (fun _ _ => rfl)))))
      (pss_one (ps_expr (pe_bm PySem.F.plainAttrs_list PySem.F.slot_list_extend PySem.F.type_list_extend mt_extend (pv 6) (pa_cons (pe_lst (pa_cons (pe_tup (pa_cons (pv 9) (pa_cons (pv 10) pa_nil))) (pa_cons (pe_tup (pa_cons (pv 10) (pa_cons (pv 9) pa_nil))) pa_nil))) pa_nil))))))
      (Evl.pss_cut (ps_if (pw_and (pt_cmpR op_eq (pv 7) pe_int (nomark _)) (pw_and1 (pt_cmpR op_gt (e_len B (pa_cons (pv 5) pa_nil)) pe_int (nomark _)))).pt (pss_one (ps_expr (pe_bm PySem.F.plainAttrs_list PySem.F.slot_list_extend PySem.F.type_list_extend mt_extend (pv 6) (pa_cons (pe_lst (pa_cons (pe_tup (pa_cons (pe_ix ix_list (pv 5) pe_int (fun _ _ => rfl)) (pa_cons (pe_ix ix_list (pv 5) (pe_un un_neg pe_int) (fun _ _ => rfl)) pa_nil))) (pa_cons (pe_tup (pa_cons (pe_ix ix_list (pv 5) (pe_un un_neg pe_int) (fun _ _ => rfl)) (pa_cons (pe_ix ix_list (pv 5) pe_int (fun _ _ => rfl)) pa_nil))) pa_nil))) pa_nil)))) pss_nil)
      (pss_cons (ps_for PassesOwn.never rfl (pi_range1 rfl B.range (pa_cons (pe_d Gd hr (pa_cons (pv 0) (pa_cons pe_int pa_nil))) pa_nil)) (pg_name (i := 11) sc_space.nd rfl (Or.inl rfl)) (pss_one (ps_expr (pe_bm PySem.F.plainAttrs_list PySem.F.slot_list_append PySem.F.type_list_append mt_append (pv 6) (pa_cons (pe_tup (pa_cons (pe_d Gp hr (pa_cons (pv 0) (pa_cons (pv 5) pa_nil))) (pa_cons (pe_d Gp hr (pa_cons (pv 0) (pa_cons (pv 5) pa_nil))) pa_nil))) pa_nil)))))
      (pss_cons (ps_for PassesOwn.never rfl (pi_seq (pv 4)) (pg_name (i := 12) sc_space.nd rfl (Or.inr rfl)) (pss_one (ps_expr (pe_bm PySem.F.plainAttrs_list PySem.F.slot_list_extend PySem.F.type_list_extend mt_extend (pv 6) (pa_cons (pe_lc (own := [("k", 11)]) (g := gName 11) (tt := tYes) (by rfl) sc_space.nd (pi_range1 rfl B.range (pa_cons (pe_op op_add pe_int (pe_d Gd hr (pa_cons (pv 0) (pa_cons pe_int pa_nil)))) pa_nil)) (blkOk_by (N := n_space) (sc := defScope s_space) (by decide +kernel)) (fun _ _ _ _ _ => (pg_name (i := 11) sc_space.nd rfl (Or.inl rfl))) (fun _ _ _ _ _ => pts_nil) (fun _ _ _ _ _ => (pe_tup (pa_cons (pe_d Gp hr (pa_cons (pv 0) (pa_cons (pv 5) pa_nil))) (pa_cons (pv 12) pa_nil))))) pa_nil)))))
      (pss_cons (ps_asg (pe_tup (pa_cons pe_dnewT (pa_cons (pe_d Gd hr (pa_cons (pv 0) (pa_cons pe_int pa_nil))) pa_nil))) (pg_tup rfl (pgs_cons (pg_name (i := 13) sc_space.nd rfl (Or.inr rfl)) (pgs_cons (pg_name (i := 14) sc_space.nd rfl (Or.inl rfl)) pgs_nil))))
      (pss_cons (ps_for PassesOwn.never rfl (pi_seq (pv 6)) (pg_tup rfl (pgs_cons (pg_name (i := 9) sc_space.nd rfl (Or.inl rfl)) (pgs_cons (pg_name (i := 10) sc_space.nd rfl (Or.inl rfl)) pgs_nil))) (pss_one (ps_if (pw_and (pt_cmpR op_ne (pv 9) (pv 10) (nomark _)) (pw_and1 (pw_or (pt_cmpR op_gt (pv 14) pe_int (nomark _)) (pw_or1 (pt_cmpR op_gt (pe_d Gd hr (pa_cons (pv 0) (pa_cons pe_int pa_nil))) pe_int (nomark _)))).pt)).pt (pss_one (ps_dput (hu_of hr) (pv 13) (pe_tup (pa_cons (pv 9) (pa_cons (pv 10) pa_nil))) (pe_d Gp hr (pa_cons (pv 0) (pa_cons (pe_lst (pa_cons pe_int (pa_cons pe_int (pa_cons pe_int (pa_cons pe_int (pa_cons (pe_op op_add pe_int (pe_d Gd hr (pa_cons (pv 0) (pa_cons pe_int pa_nil)))) pa_nil)))))) pa_nil))) rfl)) pss_nil)))
      (pss_cons (ps_set (i := 15) sc_space.nd rfl (Or.inl rfl) (e_dict B (pa_cons (pe_lc (own := [("name", 16)]) (g := gName 16) (tt := tYes) (by rfl) sc_space.nd (pi_seq (e_sorted B (pa_cons (pv 5) pa_nil) hr.units)) (blkOk_by (N := n_space) (sc := defScope s_space) (by decide +kernel)) (fun _ _ _ _ _ => (pg_name (i := 16) sc_space.nd rfl (Or.inl rfl))) (fun _ _ _ _ _ => pts_nil) (fun _ _ _ _ _ => (pe_tup (pa_cons (pv 16) (pa_cons (pe_op op_add (pv 2) (pe_d Gp hr (pa_cons (pv 0) (pa_cons (pe_lst (pa_cons pe_int (pa_cons pe_int (pa_cons pe_int (pa_cons pe_int (pa_cons pe_int pa_nil)))))) pa_nil)))) pa_nil))))) pa_nil)))
      (pss_one (ps_ret (pe_tup (pa_cons (pv 15) (pa_cons (e_sorted B (pa_cons (pv 4) pa_nil) hr.units) (pa_cons (e_sorted B (pa_cons (pe_lock (pe_lc (own := [("one", 9), ("other", 10)]) (g := gTup K 2 (gCons (gName 9) (gCons (gName 10) gNil))) (tt := tYes) (by rfl) sc_space.nd (pi_keys (pv 13)) (blkOk_by (N := n_space) (sc := defScope s_space) (by decide +kernel)) (fun _ _ _ _ _ => (pg_tup rfl (pgs_cons (pg_name (i := 9) sc_space.nd rfl (Or.inl rfl)) (pgs_cons (pg_name (i := 10) sc_space.nd rfl (Or.inl rfl)) pgs_nil)))) (fun _ _ _ _ _ => pts_nil) (fun _ _ _ _ _ => (pe_tup (pa_cons (pv 9) (pa_cons (pv 10) (pa_cons (pe_dget (hu_of hr) (pv 13) (pe_tup (pa_cons (pv 9) (pa_cons (pv 10) pa_nil))) (fun _ _ => rfl)) pa_nil))))))) pa_nil) hr.units) pa_nil))))))))))))))))), ?_⟩
    unfold spc at hb k
    obtain ⟨⟨_, e1⟩, ⟨_, e2⟩⟩ := hS.some
    -- names
    refine ⟨_, rfl, _, rfl, _, rfl, st, sc, (m : Int), b, rfl, hS, by omega, by omega, by omega, fun r H1 r0 r1 k1 S1 => ⟨_, _, rfl, rfl, ?_⟩⟩
    obtain ⟨u, rfl⟩ : ∃ u : Nat, r = (u : Int) := ⟨r.toNat, by omega⟩
    refine ⟨st, sc, u + 3, b + 1, by show [V.ref st, V.int (3 + (u : Int))] = _; rw [show (3 + (u : Int)) = ((u + 3 : Nat) : Int) by omega], S1, by omega, by omega, fun N ns H2 hN k2 hN2 n1 n2 hlen nd hnm S2 => ?_⟩
    have k02 := k1.trans k2
    have hN0 : H N = none := k1.n N hN
    clear S1
    -- homes, inner = names[:..], []
    refine ⟨_, rfl, _, rfl, _, rfl, _, ns.length, rfl, .inl ⟨_, SqL.of hN2, by rw [List.length_map]⟩, _, _, rfl, rfl, _, _, rfl, st, sc, _, b + 1 + 5 * (u + 3), rfl, S2, ?_, ?_, by omega, fun r H3 r0' r1' k3 S3 => ?_⟩
    · rw [hlen]; split <;> omega
    · rw [hlen]; split <;> omega
    have hr3 : r < 3 ∧ r < (ns.length : Int) - 1 := by
      rw [hlen] at r1' ⊢
      split at r1' <;> omega
    obtain ⟨h0, rfl⟩ : ∃ h0 : Nat, r = (h0 : Int) := ⟨r.toNat, by omega⟩
    have hN3 : H3 N = some (.lst (ns.map V.str)) := k3.lst (by simp [n1, n2]) hN2
    have k03 := k02.trans k3
    refine ⟨_, _, rfl, rfl, _, rfl, N, _, rfl, SqL.of hN3, fun HL hHL => ⟨Nat.zero_le _, fun IL hIL => ⟨by show 2 ≤ sizeLine; decide, fun tp htp => ⟨tp, _, rfl, SqT.of upd_same, rfl, _, _, rfl, _, _, rfl, rfl, ?_⟩⟩⟩⟩
    have ecut : cutV (ns.map V.str) none (some (1 + (h0 : Int))) = (ns.take (h0 + 1)).map V.str := by
      rw [show (1 : Int) + (h0 : Int) = ((h0 + 1 : Nat) : Int) by omega, cutV_take, List.map_take]
    have hltn : h0 + 1 < ns.length := by omega
    have hh3 : h0 + 1 ≤ 3 := by omega
    rw [ecut] at hIL htp ⊢
    have nHIL : HL ≠ IL := fun z => by rw [← z, upd_same] at hIL; cases hIL
    have nHtp : HL ≠ tp := fun z => by rw [← z, upd_ne nHIL, upd_same] at htp; cases htp
    have hHL0 : H3 HL = none := hHL
    have hHL4 : (upd (upd (upd H3 HL (.lst ((ns.take (h0 + 1)).map V.str))) IL (.lst [])) tp (.tup [.ref HL, .ref IL])) HL = some (.lst ((ns.take (h0 + 1)).map V.str)) := by rw [upd_ne nHtp, upd_ne nHIL, upd_same]
    have k34 : Kp T [] H3 (upd (upd (upd H3 HL (.lst ((ns.take (h0 + 1)).map V.str))) IL (.lst [])) tp (.tup [.ref HL, .ref IL])) := ((Kp.new hHL).trans (Kp.new hIL)).trans (Kp.new htp)
    dsimp only
    generalize (upd (upd (upd H3 HL (.lst ((ns.take (h0 + 1)).map V.str))) IL (.lst [])) tp (.tup [.ref HL, .ref IL])) = H4 at hHL4 k34 ⊢
    clear hIL htp nHIL nHtp ecut
    have hHLh : H HL = none := k03.n HL hHL0
    have nH1 : HL ≠ st := none_ne e1 hHLh
    have nH2 : HL ≠ sc := none_ne e2 hHLh
    have hN4 := k34.lst (by simp) hN3
    have S4 := S3.kp k34 (by simp) (by simp)
    have k04 := k03.trans (k34.mono (by simp))
    -- inner = [name for name in names if name not in homes]
    refine ⟨_, rfl, N, _, true, rfl, SqL.of hN4, fun J Gj hsz W hG IN hIN => ?_⟩
    have nIN1 : HL ≠ IN := ne_of_none hHL4 hIN
    have nIN2 : N ≠ IN := ne_of_none hN4 hIN
    refine lc_acc W T [] hIN (by simp) hsz (fun i acc _ => acc = ((ns.take i).filter fun z => !decide (z ∈ ns.take (h0 + 1))).map V.str) rfl (fun H' k' => hG H' (SqL.of (k'.lst (by simp [nIN2]) hN4))) (fun i y acc H' H'' Q' Qn hi hn k' hDa R y' hk hk2 => ?_) fun H5 acc k' R hDa _ => ?_
    · obtain ⟨rfl, ey⟩ := y'
      rw [List.getElem?_map] at ey
      obtain ⟨z, ez, rfl⟩ := Option.map_eq_some_iff.mp ey
      have step : (ns.take (i + 1)).filter (fun z => !decide (z ∈ ns.take (h0 + 1))) = (ns.take i).filter (fun z => !decide (z ∈ ns.take (h0 + 1))) ++ [z].filter fun z => !decide (z ∈ ns.take (h0 + 1)) := filt_step _ ez
      refine ⟨rfl, _, rfl, _, rfl, HL, _, rfl, .inl (SqL.of (k'.lst (by simp [nIN1]) hHL4)), rfl, all_flat _, _, rfl, ?_⟩
      rw [inV_strs]
      by_cases hz : z ∈ ns.take (h0 + 1)
      · rw [decide_eq_true hz]
        refine iteF (hk2 _ Kp.refl ?_)
        rw [R, step, List.filter_cons, decide_eq_true hz]
        simp
      · rw [decide_eq_false hz]
        refine iteT ⟨_, rfl, hk _ _ Kp.refl ?_⟩
        rw [R, step, List.filter_cons, decide_eq_false hz]
        simp
    · rw [List.length_map, List.take_length, filt_drop nd] at R
      subst R
      have k05 : Kp T [st, sc] H H5 := k04.trans ((k'.drop hIN).mono (by simp))
      have hIN0 : H IN = none := k04.n IN hIN
      have nI1 : IN ≠ st := none_ne e1 hIN0
      have nI2 : IN ≠ sc := none_ne e2 hIN0
      have hHL5 : H5 HL = some (.lst ((ns.take (h0 + 1)).map V.str)) := k'.lst (by simp [nIN1]) hHL4
      have S5 := S4.kp (k'.drop hIN) (by simp) (by simp)
      have hdj : ∀ z, z ∈ ns.drop (h0 + 1) → z ∉ ns.take (h0 + 1) := fun z h1 h2 => take_drop_dj nd h2 h1
      have hsn : (ns.take (h0 + 1)).Nodup := nd.sublist (List.take_sublist _ _)
      have isn : (ns.drop (h0 + 1)).Nodup := nd.sublist (List.drop_sublist _ _)
      have hsm : ∀ z ∈ ns.take (h0 + 1), nmS z = true ∧ z.length ≤ 5 := fun z hz => hnm z (List.mem_of_mem_take hz)
      have ism : ∀ z ∈ ns.drop (h0 + 1), nmS z = true ∧ z.length ≤ 5 := fun z hz => hnm z (List.mem_of_mem_drop hz)
      have hsl : (ns.take (h0 + 1)).length = h0 + 1 := by rw [List.length_take]; omega
      have isl : (ns.drop (h0 + 1)).length = ns.length - (h0 + 1) := List.length_drop
      have isl1 : 1 ≤ (ns.drop (h0 + 1)).length := by omega
      have isl2 : (ns.drop (h0 + 1)).length + (ns.take (h0 + 1)).length ≤ m + 2 := by omega
      have hsl3 : 1 ≤ (ns.take (h0 + 1)).length ∧ (ns.take (h0 + 1)).length ≤ 3 := by omega
      have S5' : StrAt (b + 5 * m + 20) st sc H5 := S5.mono (by omega)
      clear S2 S3 S4 S5 hN2 hN3 hN4 k' k34 k3 k1 k2 k02 k03 k04 hG W hIN hHL4 nIN1 nIN2 hsz hHL hHL0 r0 r1 r0' r1' hr3
      generalize ns.take (h0 + 1) = hs at hdj hsn hsm hsl3 isl2 hHL5 hsl ⊢
      generalize ns.drop (h0 + 1) = ins at hdj isn ism isl1 isl2 hDa isl ⊢
      clear hsl isl hltn hh3 hlen nd hnm hN hN0
      dsimp only
      have hI5 : H5 IN = some (.lst (ins.map V.str)) := hDa
      -- pairs, way = [], _law_draw(stream, 4)
      refine ⟨Nat.zero_le _, fun PL hPL => ⟨_, rfl, st, sc, 4, b + 5 * m + 20, rfl, S5'.kp (Kp.new (T := T) (l := []) hPL) (by simp) (by simp), by decide, by decide, by omega, fun way H6 w0 w1 k6 S6 => ⟨_, _, rfl, ?_⟩⟩⟩
      have Ap0 : Ap H st sc HL IN PL := ⟨nH1, nH2, nI1, nI2, none_ne S5'.some.1.choose_spec hPL, none_ne S5'.some.2.choose_spec hPL, none_ne hHL5 hPL, none_ne hI5 hPL, k05.n PL hPL⟩
      have I6 : SpI T H st sc HL IN PL hs ins (b + 5 * m + 21) 0 H6 := by
        have i5 : SpI T H st sc HL IN PL hs ins (b + 5 * m + 20) 0 (upd H5 PL (.lst [])) := ⟨k05.trans (Kp.new hPL), by rw [upd_ne Ap0.p3.symm]; exact hHL5, by rw [upd_ne Ap0.p4.symm]; exact hI5, ⟨[], [], upd_same, .nil, Nat.le_refl _, fun _ z => by cases z⟩, S5'.kp (Kp.new (T := T) (l := []) hPL) (by simp) (by simp)⟩
        exact i5.step Ap0 k6 S6
      have hzi : ins.length ≤ 1000 := by omega
      clear S6 k6 hPL S5' k05 hHL5 hI5 hDa nH1 nH2 nI1 nI2 hHLh hIN0
      dsimp only
      -- for at, one in enumerate(inner[1:])
      refine ⟨_, rfl, _, rfl, IN, _, rfl, SqL.of I6.i, fun XL hXL => ?_⟩
      rw [show cutV (ins.map V.str) (some 1) none = (ins.drop 1).map V.str by rw [show (some (1 : Int)) = some ((1 : Nat) : Int) from rfl, cutV_drop, List.map_drop]]
      refine ⟨XL, _, true, rfl, SqL.of upd_same, fun J Gj hsz W hG => ?_⟩
      have nx1 : XL ≠ st := none_ne I6.s.some.1.choose_spec hXL
      have nx2 : XL ≠ sc := none_ne I6.s.some.2.choose_spec hXL
      have nx3 : XL ≠ PL := none_ne I6.p.choose_spec.choose_spec.1 hXL
      refine for_it W (fun t σ H' => (∃ x8 x9 x10, σ = [some (.ref st), some (.int (m : Int)), some (.int (least : Int)), some (.ref N), some (.ref HL), some (.ref IN), some (.ref PL), some (.int way), x8, x9, x10, none, none, none, none, none, none]) ∧ SpI T H st sc HL IN PL hs ins (b + 5 * m + 21 + t) (2 * t) H' ∧ H' XL = some (.lst ((ins.drop 1).map V.str)))
        ⟨⟨_, _, _, rfl⟩, I6.new (Kp.new hXL), upd_same⟩ (fun t σ H' _ pv => hG H' (SqL.of pv.2.2)) (fun t y σ H' H'' ht pv yy => ?_) fun σ H' pv => ?_
      · obtain ⟨⟨x8, x9, x10, rfl⟩, It, hx⟩ := pv
        obtain ⟨T0, x, y', rfl, n0, rfl, ex, ey⟩ := yy
        cases ex
        have ey : ((ins.drop 1).map V.str)[t]? = some y' := ey
        rw [List.getElem?_map] at ey
        obtain ⟨one, eo, rfl⟩ := Option.map_eq_some_iff.mp ey
        have hone : one ∈ ins := List.mem_of_mem_drop (List.mem_of_getElem? eo)
        have hlt : t + 1 < ins.length := by
          have := (List.getElem?_eq_some_iff.mp eo).1
          rw [List.length_drop] at this
          omega
        have It' := It.new (Kp.new (o := .tup [.int (t : Nat), .str one]) n0)
        have hx' : upd H' T0 (.tup [.int (t : Nat), .str one]) XL = some (.lst ((ins.drop 1).map V.str)) := by rw [upd_ne (ne_of_none hx n0)]; exact hx
        refine ⟨T0, _, rfl, SqT.of upd_same, rfl, _, _, rfl, _, _, rfl, rfl, ?_⟩
        dsimp only
        generalize upd H' T0 (.tup [.int (t : Nat), .str one]) = H7 at It' hx' ⊢
        refine rd_seq (rd_asg (other_rd It' Ap0 (by omega) rfl rfl rfl rfl (by omega) hzi fun o H8 ho I8 k8 => ?_))
        have hx8 := k8.lst (by simp [nx1, nx2]) hx'
        obtain ⟨vs, ps, hv, hpt, hle, hgd⟩ := I8.p
        refine ⟨_, rfl, .inl ⟨rfl, _, SqL.of hv⟩, _, rfl, _, rfl, by show 2 ≤ sizeLine; decide, fun q1 hq1 => ⟨_, rfl, _, rfl, by show 2 ≤ sizeLine; decide, fun q2 hq2 => ⟨by show 2 ≤ sizeLine; decide, fun q3 hq3 => ?_⟩⟩⟩
        obtain ⟨a1, a2, a3⟩ := I8.two Ap0 ⟨hone, .inl ho⟩ ⟨ho, .inl hone⟩ hv hq1 hq2 hq3
        have hvl := I8.len hv
        refine ⟨PL, q3, vs, _, rfl, rfl, a1, a2, Nat.le_trans (by show vs.length + 2 ≤ 3000; omega) (by decide), ⟨_, _, _, rfl⟩, (a3.mono (by omega) (by omega)), ?_⟩
        rw [upd_ne nx3]
        exact (((Kp.new hq1).trans (Kp.new hq2)).trans (Kp.new hq3) : Kp T [] _ _).lst (by simp) hx8
      · obtain ⟨⟨x8, x9, x10, rfl⟩, It, -⟩ := pv
        have I7 : SpI T H st sc HL IN PL hs ins (b + 6 * m + 30) (2 * m + 2) H' := It.mono (by rw [List.length_map, List.length_drop]; omega) (by rw [List.length_map, List.length_drop]; omega)
        clear It I6 hG W hsz hXL nx1 nx2 nx3
        -- if way == 3 and len(inner) > 2
        refine ⟨fun σ H' => (∃ x8 x9 x10, σ = [some (.ref st), some (.int (m : Int)), some (.int (least : Int)), some (.ref N), some (.ref HL), some (.ref IN), some (.ref PL), some (.int way), x8, x9, x10, none, none, none, none, none, none]) ∧ SpI T H st sc HL IN PL hs ins (b + 6 * m + 30) (2 * m + 4) H', ?_, ?_⟩
        · refine ⟨_, rfl, rfl, _, rfl, ite2 (fun _ => ⟨_, rfl, _, ins.length, rfl, .inl ⟨_, SqL.of I7.i, by rw [List.length_map]⟩, _, _, rfl, rfl, _, rfl, ite2 (fun _ => ?_) fun _ => ⟨⟨_, _, _, rfl⟩, I7.mono (Nat.le_refl _) (by omega)⟩⟩) fun _ => iteF ⟨⟨_, _, _, rfl⟩, I7.mono (Nat.le_refl _) (by omega)⟩⟩
          obtain ⟨vs, ps, hv, hpt, hle, hgd⟩ := I7.p
          have hvl := I7.len hv
          have h0 := at_strs (ns := ins) (i := 0) (by omega)
          have hl0 := at_last isl1
          have i0 : ins.getD 0 "" ∈ ins := getD_mem (by omega)
          have il : ins.getD (ins.length - 1) "" ∈ ins := getD_mem (by omega)
          refine ⟨_, rfl, .inl ⟨rfl, _, SqL.of hv⟩, ?_⟩
          refine ⟨_, rfl, _, _, (0 : Int), _, rfl, rfl, SqL.of I7.i, h0, _, rfl, _, rfl, _, _, (-1 : Int), _, rfl, rfl, SqL.of I7.i, hl0, by show 2 ≤ sizeLine; decide, fun q1 hq1 => ?_⟩
          have J1 := I7.new (Kp.new (o := .tup [.str (ins.getD 0 ""), .str (ins.getD (ins.length - 1) "")]) hq1)
          refine ⟨_, rfl, _, rfl, _, _, (-1 : Int), _, rfl, rfl, SqL.of J1.i, hl0, _, rfl, _, _, (0 : Int), _, rfl, rfl, SqL.of J1.i, h0, by show 2 ≤ sizeLine; decide, fun q2 hq2 => ⟨by show 2 ≤ sizeLine; decide, fun q3 hq3 => ?_⟩⟩
          obtain ⟨a1, a2, a3⟩ := I7.two Ap0 ⟨i0, .inl il⟩ ⟨il, .inl i0⟩ hv hq1 hq2 hq3
          exact ⟨PL, q3, vs, _, rfl, rfl, a1, a2, Nat.le_trans (by show vs.length + 2 ≤ 3000; omega) (by decide), ⟨_, _, _, rfl⟩, a3⟩
        · clear I7 x8 x9 x10 H'
          rintro σ H' ⟨⟨x8, x9, x10, rfl⟩, I7⟩
          -- for k in range(_law_draw(stream, 4))
          refine ⟨_, rfl, st, sc, 4, _, rfl, I7.s, by decide, by decide, by omega, fun r H8 r0 r1 k8 S8 => ⟨_, rfl, by omega, by omega, ?_⟩⟩
          have I8 := I7.step Ap0 k8 S8
          clear I7 k8 S8
          refine for_range (lo := 0) (n := r.toNat) (fun t σ H' => (∃ x8 x9 x10 x11, σ = [some (.ref st), some (.int (m : Int)), some (.int (least : Int)), some (.ref N), some (.ref HL), some (.ref IN), some (.ref PL), some (.int way), x8, x9, x10, x11, none, none, none, none, none]) ∧ SpI T H st sc HL IN PL hs ins (b + 6 * m + 31 + 2 * t) (2 * m + 4 + t) H')
            ⟨⟨_, _, _, _, rfl⟩, I8.mono (by omega) (by omega)⟩ ?_ ?_
          · rintro t σ H9 ht ⟨⟨x8, x9, x10, x11, rfl⟩, It⟩
            obtain ⟨vs, ps, hv, hpt, hle, hgd⟩ := It.p
            refine ⟨_, rfl, .inl ⟨rfl, _, SqL.of hv⟩, _, rfl, _, rfl, st, sc, .ref IN, _, ins.length, _, rfl, It.s, by omega, items_strs (SqL.of (off_some (by simp [Ap0.i1, Ap0.i2]) It.i)), by omega, by omega, fun j H10 hj k10 S10 => ?_⟩
            have I10 := It.step Ap0 k10 S10
            refine ⟨_, rfl, _, rfl, st, sc, .ref IN, _, ins.length, _, rfl, I10.s, by omega, items_strs (SqL.of (off_some (by simp [Ap0.i1, Ap0.i2]) I10.i)), by omega, by omega, fun j2 H11 hj2 k11 S11 => ⟨by show 2 ≤ sizeLine; decide, fun q hq => ?_⟩⟩
            have I11 := I10.step Ap0 k11 S11
            obtain ⟨vs, ps, hv, hpt, hle, hgd⟩ := I11.p
            have hvl := I11.len hv
            obtain ⟨a1, a2⟩ := I11.one Ap0 ⟨getD_mem hj, .inl (getD_mem hj2)⟩ hv hq
            exact ⟨PL, vs, .ref q, rfl, rfl, a1, Nat.lt_of_le_of_lt (by omega : vs.length ≤ 3000) (by decide), ⟨_, _, _, _, rfl⟩, a2.mono (by omega) (by omega)⟩
          · rintro σ H9 ⟨⟨x8, x9, x10, x11, rfl⟩, It⟩
            have I9 : SpI T H st sc HL IN PL hs ins (b + 6 * m + 40) (2 * m + 7) H9 := It.mono (by omega) (by omega)
            clear It I8
            -- for home in homes
            refine ⟨_, rfl, HL, _, true, rfl, SqL.of I9.h, fun J Gj hsz W hG => ?_⟩
            refine for_it W (fun t σ H' => (∃ x8 x9 x10 x11 x12, σ = [some (.ref st), some (.int (m : Int)), some (.int (least : Int)), some (.ref N), some (.ref HL), some (.ref IN), some (.ref PL), some (.int way), x8, x9, x10, x11, x12, none, none, none, none]) ∧ SpI T H st sc HL IN PL hs ins (b + 6 * m + 40 + 3 * t) (2 * m + 7 + 2 * t) H')
              ⟨⟨_, _, _, _, _, rfl⟩, I9.mono (by omega) (by omega)⟩ (fun t σ H' _ pv => hG H' (SqL.of pv.2.h)) (fun t y σ H' H'' ht pv yy => ?_) fun σ H' pv => ?_
            · obtain ⟨⟨x8, x9, x10, x11, x12, rfl⟩, It⟩ := pv
              obtain ⟨rfl, ey⟩ := yy
              rw [List.length_map] at ht
              rw [List.getElem?_map] at ey
              obtain ⟨home, eh, rfl⟩ := Option.map_eq_some_iff.mp ey
              have hhome : home ∈ hs := List.mem_of_getElem? eh
              obtain ⟨vs, ps, hv, hpt, hle, hgd⟩ := It.p
              refine ⟨_, rfl, .inl ⟨rfl, _, SqL.of hv⟩, _, rfl, st, sc, 2, _, rfl, It.s, by decide, by decide, by omega, fun r H10 r0 r1 k10 S10 => ⟨_, _, rfl, rfl, _, rfl, by omega, by omega, fun D hD => ?_⟩⟩
              have I10 := It.step Ap0 k10 S10
              obtain ⟨u, rfl⟩ : ∃ u : Nat, r = (u : Int) := ⟨r.toNat, by omega⟩
              rw [show ((1 : Int) + (u : Int)).toNat = u + 1 by omega]
              have nD1 : D ≠ st := none_ne I10.s.some.1.choose_spec hD
              have nD2 : D ≠ sc := none_ne I10.s.some.2.choose_spec hD
              have nD3 : D ≠ PL := none_ne I10.p.choose_spec.choose_spec.1 hD
              refine lc_acc walk_range T [st, sc] hD (by simp [nD1, nD2]) (Nat.le_trans (by omega : u + 1 ≤ 2) (by decide)) (fun j acc H' => StrAt (b + 6 * m + 41 + 3 * t + j) st sc H' ∧ ∃ qs : List (Str × Str), PT H' acc qs ∧ qs.length = j ∧ ∀ p ∈ qs, p.1 ∈ ins ∧ (p.2 ∈ ins ∨ p.2 ∈ hs))
                ⟨(I10.s.mono (by omega)).off nD1 nD2, [], .nil, rfl, (fun _ z => by cases z)⟩ (fun _ _ => trivial) (fun j y acc H' H'' Q' Qn hj hn k' hDa R y' hk _ => ?_) fun H12 acc k' R hDa hal => ?_
              · obtain ⟨S', qs, q1, q2, q3⟩ := R
                obtain ⟨rfl, rfl⟩ := y'
                have Ij := I10.step Ap0 (k'.drop hD) S'.of_off
                refine ⟨rfl, _, rfl, _, rfl, st, sc, .ref IN, _, ins.length, _, rfl, Ij.s, by omega, items_strs (SqL.of (off_some (by simp [Ap0.i1, Ap0.i2]) Ij.i)), by omega, by omega, fun j2 H13 hj2 k13 S13 => ⟨_, rfl, by show 2 ≤ sizeLine; decide, fun q hq => hk _ _ (k13.trans (Kp.new hq)) ⟨?_, qs ++ [(ins.getD j2 "", home)], ?_, by rw [List.length_append, q2]; rfl, fun p hp => ?_⟩⟩⟩
                · exact ((S13.kp (Kp.new (T := T) (l := []) hq) (by simp) (by simp)).off nD1 nD2).mono (by omega)
                · have hD13 : H13 D = some (.lst acc) := k13.lst (by simp [nD1, nD2]) hDa
                  have nq : q ≠ D := fun z => by rw [z, hD13] at hq; cases hq
                  have tk : Tk (off [D] H'') (off [D] (upd H13 q (.tup [.str (ins.getD j2 ""), .str home]))) := fun a zs e => by
                    obtain ⟨e1, e2⟩ := of_off e
                    refine off_some e1 (Tk.new hq _ _ (k13.tk (fun a ha => ?_) _ _ e2))
                    rcases List.mem_cons.mp ha with rfl | ha
                    · exact Ij.s.some.1
                    · cases List.mem_singleton.mp ha
                      exact Ij.s.some.2
                  exact (q1.tk tk).append (.cons ⟨q, rfl, off_some (by simp [nq]) upd_same⟩ .nil)
                · rcases List.mem_append.mp hp with hp | hp
                  · exact q3 p hp
                  · cases List.mem_singleton.mp hp
                    exact ⟨getD_mem hj2, .inr hhome⟩
              · obtain ⟨S', qs, q1, q2, q3⟩ := R
                have I12 := I10.step Ap0 (k'.drop hD) S'.of_off
                obtain ⟨vs, ps, hv, hpt, hle, hgd⟩ := I12.p
                have hvl := I12.len hv
                have I13 := I12.grow Ap0 (q1.tk fun a zs e => (of_off e).2) q3 hv
                exact ⟨PL, D, vs, acc, rfl, rfl, hv, hDa, Nat.le_trans (by omega : vs.length + acc.length ≤ 3000) (by decide), ⟨_, _, _, _, _, rfl⟩, I13.mono (by omega) (by omega)⟩
            · obtain ⟨⟨x8, x9, x10, x11, x12, rfl⟩, It⟩ := pv
              have I10 : SpI T H st sc HL IN PL hs ins (b + 6 * m + 50) (2 * m + 13) H' := It.mono (by rw [List.length_map]; omega) (by rw [List.length_map]; omega)
              clear It I9 hG W hsz
              -- lanes, thin = {}, _law_draw(stream, 6)
              refine fun DL hDL => ⟨_, rfl, st, sc, 6, _, rfl, (I10.new (Kp.new (o := .dT []) hDL)).s, by decide, by decide, by omega, fun thin H11 t0 t1 k11 S11 => ⟨by show 2 ≤ sizeLine; decide, fun tp htp => ⟨tp, _, rfl, SqT.of upd_same, rfl, _, _, rfl, _, _, rfl, rfl, ?_⟩⟩⟩
              have nD1 : DL ≠ st := none_ne I10.s.some.1.choose_spec hDL
              have nD2 : DL ≠ sc := none_ne I10.s.some.2.choose_spec hDL
              have hDL0 : H DL = none := I10.k.n DL hDL
              have I11 := ((I10.new (Kp.new (o := .dT []) hDL)).step Ap0 k11 S11).new (Kp.new (o := .tup [.ref DL, .int thin]) htp)
              have hD11 : upd H11 tp (.tup [.ref DL, .int thin]) DL = some (.dT []) := by
                have q := k11.dT (by simp [nD1, nD2]) (upd_same (H := H') (a := DL) (o := .dT []))
                rw [upd_ne (ne_of_none q htp)]
                exact q
              dsimp only
              generalize upd H11 tp (.tup [.ref DL, .int thin]) = H12 at I11 hD11 ⊢
              clear I10 k11 S11 hDL htp
              -- for one, other in pairs
              obtain ⟨vs, ps, hv, hpt, hle, hgd⟩ := id I11.p
              refine ⟨_, rfl, PL, vs, true, rfl, SqL.of hv, fun J Gj hsz W hG => ?_⟩
              have hvl : vs.length = ps.length := Paired.length hpt
              refine for_it W (fun t σ H' => (∃ x8 x9 x10 x11 x12, σ = [some (.ref st), some (.int (m : Int)), some (.int (least : Int)), some (.ref N), some (.ref HL), some (.ref IN), some (.ref PL), some (.int way), x8, x9, x10, x11, x12, some (.ref DL), some (.int thin), none, none]) ∧ SpI T H st sc HL IN PL hs ins (b + 6 * m + 51 + 3 * t) (2 * m + 13) H' ∧
                  H' PL = some (.lst vs) ∧ PT H' vs ps ∧ ∃ kvs, H' DL = some (.dT kvs) ∧ (kvs.map (·.1)).Nodup ∧ kvs.length ≤ t ∧ LnK ins hs kvs)
                ⟨⟨_, _, _, _, _, rfl⟩, I11.mono (by omega) (by omega), hv, hpt, [], hD11, List.nodup_nil, Nat.le_refl _, (fun _ z => by cases z)⟩ (fun t σ H' _ pv => hG H' (SqL.of pv.2.2.1)) (fun t y σ H' H'' ht pv yy => ?_) fun σ H' pv => ?_
              · obtain ⟨⟨x8, x9, x10, x11, x12, rfl⟩, It, hPt, hpT, kvs, hDt, hnd, hkl, hLn⟩ := pv
                obtain ⟨rfl, ey⟩ := yy
                obtain ⟨p, ep, q, rfl, hq⟩ := paired_get hpT ey
                have hgp := hgd p (List.mem_of_getElem? ep)
                refine ⟨q, _, rfl, SqT.of hq, rfl, _, _, rfl, _, _, rfl, rfl, ?_⟩
                dsimp only
                have nPD : PL ≠ DL := ne_of hPt hDt fun z => by cases z
                have nP3 : PL ∉ [DL, st, sc] := by simp [nPD, Ap0.p1, Ap0.p2]
                have hzk : kvs.length < sizeLine := Nat.lt_of_lt_of_le (by omega : kvs.length < vs.length + 1) (Nat.le_trans (by omega : vs.length + 1 ≤ 3000) (by decide))
                refine ⟨_, rfl, _, rfl, rfl, _, rfl, ?_⟩
                by_cases he : p.1 = p.2
                · rw [show (!decide (V.str p.1 = V.str p.2)) = false by rw [he]; simp]
                  exact iteF (iteF ⟨⟨_, _, _, _, _, rfl⟩, It.mono (by omega) (Nat.le_refl _), hPt, hpT, kvs, hDt, hnd, by omega, hLn⟩)
                · rw [show (!decide (V.str p.1 = V.str p.2)) = true by simp [he]]
                  refine iteT ⟨_, rfl, _, _, rfl, rfl, _, rfl, ite2 (fun _ => iteT ?_) fun _ => ⟨_, rfl, st, sc, 5, _, rfl, It.s, by decide, by decide, by omega, fun r H9 r0 r1 k9 S9 => ⟨_, _, rfl, rfl, _, rfl, ite2 (fun _ => ?_) fun _ => ?_⟩⟩⟩
                  · exact put_rd It Ap0 (by omega) rfl rfl rfl rfl hDt hzk nD1 nD2 hDL0 fun u H2 u1 u2 I2 hD2 k2 => ⟨⟨_, _, _, _, _, rfl⟩, I2.mono (by omega) (Nat.le_refl _), k2.lst nP3 hPt, hpT.tk (tk_d hDt It.s k2), _, hD2, putK_nodup hnd, Nat.le_trans (length_putK _ _ _) (by omega), hLn.put hgp.1 hgp.2 (fun z => he z.symm) u1 u2⟩
                  · have I9 := It.step Ap0 k9 S9
                    have hP9 := k9.lst (by simp [Ap0.p1, Ap0.p2]) hPt
                    have hD9 := k9.dT (by simp [nD1, nD2]) hDt
                    have hT9 := hpT.tk (tk_d hDt It.s (k9.mono (by simp)))
                    exact put_rd I9 Ap0 (by omega) rfl rfl rfl rfl hD9 hzk nD1 nD2 hDL0 fun u H2 u1 u2 I2 hD2 k2 => ⟨⟨_, _, _, _, _, rfl⟩, I2.mono (by omega) (Nat.le_refl _), k2.lst nP3 hP9, hT9.tk (tk_d hD9 I9.s k2), _, hD2, putK_nodup hnd, Nat.le_trans (length_putK _ _ _) (by omega), hLn.put hgp.1 hgp.2 (fun z => he z.symm) u1 u2⟩
                  · have I9 := It.step Ap0 k9 S9
                    exact ⟨⟨_, _, _, _, _, rfl⟩, I9.mono (by omega) (Nat.le_refl _), k9.lst (by simp [Ap0.p1, Ap0.p2]) hPt, hpT.tk (tk_d hDt It.s (k9.mono (by simp))), kvs, k9.dT (by simp [nD1, nD2]) hDt, hnd, by omega, hLn⟩
              · obtain ⟨⟨x8, x9, x10, x11, x12, rfl⟩, It, -, -, kvs, hDt, hnd, hkl, hLn⟩ := pv
                obtain ⟨ls, rfl, hls⟩ := hLn.ex
                have I13 : SpI T H st sc HL IN PL hs ins (b + 12 * m + 100) (2 * m + 13) H' := It.mono (by omega) (Nat.le_refl _)
                have hll : ls.length ≤ 2 * m + 13 := by rw [List.length_map] at hkl; omega
                clear It I11 hD11 hv hpt hle hgd hvl hG W hsz hkl hLn
                -- rooms = dict([..])
                dsimp only
                refine rd_seq (rd_asg (rd_cb (rd_cons ?_)))
                have eS : srtV (ins.map V.str) (ins.map PyData.str) = (srtBy PyData.str ins).map V.str := by
                  have q := rpA_srt (rpA_strs (K := K) (H := H') ins)
                  rw [srtD_map] at q
                  exact rpA_str_inv q
                refine ⟨_, rfl, IN, ins.map V.str, ins.map PyData.str, rfl, .inl ⟨true, SqL.of I13.i⟩, (rpA_strs ins).dp (noDA_map ins fun _ => rfl), PySem.W.AllAlike.of (fun _ _ => by simp [PySem.W.alike]), PySem.W.Sortable.others (fun b => ⟨(fun z => by cases z), (fun _ z => by cases z)⟩), fun d hd => ?_, fun SL hSL => ?_⟩
                · obtain ⟨r, -, rfl⟩ := List.mem_map.mp hd
                  simp [PyData.depth]
                rw [eS]
                have sperm := srtBy_perm PyData.str ins
                have I14 := I13.new (Kp.new (o := .lst ((srtBy PyData.str ins).map V.str)) hSL)
                have nS1 : SL ≠ st := none_ne I13.s.some.1.choose_spec hSL
                have nS2 : SL ≠ sc := none_ne I13.s.some.2.choose_spec hSL
                have hSL14 : upd H' SL (.lst ((srtBy PyData.str ins).map V.str)) SL = some (.lst ((srtBy PyData.str ins).map V.str)) := upd_same
                have hD14 : upd H' SL (.lst ((srtBy PyData.str ins).map V.str)) DL = some (.dT (ls.map fun p => ([Sum.inr p.1, Sum.inr p.2.1], V.int p.2.2))) := by rw [upd_ne (ne_of_none hDt hSL)]; exact hDt
                generalize upd H' SL (.lst ((srtBy PyData.str ins).map V.str)) = H14 at I14 hSL14 hD14 ⊢
                refine ⟨SL, _, true, rfl, SqL.of hSL14, fun J Gj hsz W hG D hD => ?_⟩
                have nD3 : D ≠ st := none_ne I14.s.some.1.choose_spec hD
                have nD4 : D ≠ sc := none_ne I14.s.some.2.choose_spec hD
                have nD5 : SL ≠ D := ne_of_none hSL14 hD
                have nD6 : DL ≠ D := ne_of_none hD14 hD
                clear I13 hDt
                refine lc_acc W T [st, sc] hD (by simp [nD3, nD4]) hsz (fun i acc H' => StrAt (b + 12 * m + 100 + i) st sc H' ∧ ∃ rs : List (Str × Int), TT (fun r => [V.str r.1, .int r.2]) H' acc rs ∧ rs.map (·.1) = (srtBy PyData.str ins).take i ∧ ∀ r ∈ rs, 0 < r.2 ∧ r.2 ≤ (least : Int) + 2)
                  ⟨I14.s.off nD3 nD4, [], .nil, rfl, (fun _ z => by cases z)⟩ (fun H' k' => hG H' (SqL.of (k'.lst (by simp [nD5, nS1, nS2]) hSL14))) (fun j y acc H' H'' Q' Qn hj hn k' hDa R y' hk _ => ?_) fun H15 acc k' R hDa hal => ?_
                · obtain ⟨S', rs, q1, q2, q3⟩ := R
                  obtain ⟨rfl, ey⟩ := y'
                  rw [List.length_map] at hj
                  rw [List.getElem?_map] at ey
                  obtain ⟨z, ez, rfl⟩ := Option.map_eq_some_iff.mp ey
                  refine ⟨rfl, _, rfl, _, rfl, _, rfl, by show 5 ≤ sizeLine; decide, fun q hq => ?_⟩
                  have S'' := S'.of_off
                  have nq1 : q ≠ st := none_ne S''.some.1.choose_spec hq
                  have nq2 : q ≠ sc := none_ne S''.some.2.choose_spec hq
                  have hjm : j < m + 2 := by rw [sperm.length_eq] at hj; omega
                  refine ⟨st, sc, .ref q, b + 12 * m + 100 + j, 5, _, rfl, S''.kp (Kp.new (T := T) (l := []) hq) (by simp) (by simp), by omega, itemI (ns := [0, 0, 0, 1, 2]) (SqL.of (off_some (by simp [nq1, nq2]) upd_same)), by decide, by decide, fun j2 H13 hj2 k13 S13 => ⟨_, _, rfl, rfl, by show 2 ≤ sizeLine; decide, fun p hp => hk _ _ (((Kp.new hq).trans k13).trans (Kp.new hp)) ⟨?_, rs ++ [(z, (least : Int) + ([0, 0, 0, 1, 2] : List Int).getD j2 0)], ?_, ?_, fun r hr => ?_⟩⟩⟩
                  · exact ((S13.kp (Kp.new (T := T) (l := []) hp) (by simp) (by simp)).off nD3 nD4).mono (by omega)
                  · have nqD : q ≠ D := fun e => by rw [e, hDa] at hq; cases hq
                    have hD13 : H13 D = some (.lst acc) := k13.lst (by simp [nD3, nD4]) (by rw [upd_ne nqD.symm]; exact hDa)
                    have npD : p ≠ D := fun e => by rw [e, hD13] at hp; cases hp
                    have tk : Tk (off [D] H'') (off [D] (upd H13 p (.tup [.str z, .int ((least : Int) + ([0, 0, 0, 1, 2] : List Int).getD j2 0)]))) := fun a zs e => by
                      obtain ⟨e1, e2⟩ := of_off e
                      refine off_some e1 (Tk.new hp _ _ (k13.tk (fun a ha => ?_) _ _ (Tk.new hq _ _ e2)))
                      have S3 := S''.kp (Kp.new (T := T) (l := []) (o := .lst [.int 0, .int 0, .int 0, .int 1, .int 2]) hq) (by simp) (by simp)
                      rcases List.mem_cons.mp ha with rfl | ha
                      · exact S3.some.1
                      · cases List.mem_singleton.mp ha
                        exact S3.some.2
                    exact (q1.tk tk).snoc (off_some (by simp [npD]) upd_same)
                  · rw [List.map_append, q2, List.take_add_one, ez]
                    rfl
                  · rcases List.mem_append.mp hr with hr | hr
                    · exact q3 r hr
                    · cases List.mem_singleton.mp hr
                      have : 0 ≤ ([0, 0, 0, 1, 2] : List Int).getD j2 0 ∧ ([0, 0, 0, 1, 2] : List Int).getD j2 0 ≤ 2 := by
                        match j2, hj2 with
                        | 0, _ => decide
                        | 1, _ => decide
                        | 2, _ => decide
                        | 3, _ => decide
                        | 4, _ => decide
                      show (0 : Int) < (least : Int) + _ ∧ (least : Int) + _ ≤ (least : Int) + 2
                      omega
                · obtain ⟨S', rs, q1, q2, q3⟩ := R
                  rw [List.length_map, List.take_length] at q2
                  have I15 := I14.step Ap0 (k'.drop hD) S'.of_off
                  have hD15 := k'.dT (by simp [nD6, nD1, nD2]) hD14
                  obtain ⟨pp, rfl, hpp⟩ := (q1.tk fun a zs e => (of_off e).2 : TT _ H15 acc rs).refs
                  have ndr : (rs.map (·.1)).Nodup := by rw [q2]; exact sperm.nodup_iff.mpr isn
                  refine ⟨D, pp, rmK rs, rfl, SqL.of hDa, paired_map hpp fun p r e => SqT.of e, fun RD hRD => ?_⟩
                  rw [mergeK_nd (rmK_nodup ndr)]
                  have I16 := I15.new (Kp.new (o := .dK (rmK rs)) hRD)
                  have hR16 : upd H15 RD (.dK (rmK rs)) RD = some (.dK (rmK rs)) := upd_same
                  have hD16 : upd H15 RD (.dK (rmK rs)) DL = some (.dT (ls.map fun p => ([Sum.inr p.1, Sum.inr p.2.1], V.int p.2.2))) := by rw [upd_ne (ne_of_none hD15 hRD)]; exact hD15
                  have hRD0 : H RD = none := I15.k.n RD hRD
                  have h16 := I16.mono (c' := b + 13 * m + 110) (n' := 2 * m + 13) (by rw [List.length_map, sperm.length_eq]; omega) (Nat.le_refl _)
                  dsimp only
                  generalize upd H15 RD (.dK (rmK rs)) = H16 at h16 hR16 hD16 ⊢
                  clear I16 I15 hD15 hDa k' hRD hpp S' q1 hal hG W hsz hD hSL14 hD14 I14 nD3 nD4 nD5 nD6
                  -- return rooms, sorted(homes), sorted([..])
                  have eH : srtV (hs.map V.str) (hs.map PyData.str) = (srtBy PyData.str hs).map V.str := by
                    have q := rpA_srt (rpA_strs (K := K) (H := H16) hs)
                    rw [srtD_map] at q
                    exact rpA_str_inv q
                  refine ⟨_, rfl, _, rfl, HL, hs.map V.str, hs.map PyData.str, rfl, .inl ⟨true, SqL.of h16.h⟩, (rpA_strs hs).dp (noDA_map hs fun _ => rfl), PySem.W.AllAlike.of (fun _ _ => by simp [PySem.W.alike]), PySem.W.Sortable.others (fun b => ⟨(fun z => by cases z), (fun _ z => by cases z)⟩), fun d hd => ?_, fun HS hHS => ?_⟩
                  · obtain ⟨r, -, rfl⟩ := List.mem_map.mp hd
                    simp [PyData.depth]
                  rw [eH]
                  have kHS : Kp T [] H16 (upd H16 HS (.lst ((srtBy PyData.str hs).map V.str))) := Kp.new hHS
                  have I17 := h16.new kHS
                  have hS17 : upd H16 HS (.lst ((srtBy PyData.str hs).map V.str)) HS = some (.lst ((srtBy PyData.str hs).map V.str)) := upd_same
                  have hR17 := kHS.dK (by simp) hR16
                  have hD17 := kHS.dT (by simp) hD16
                  have hHS0 : H HS = none := h16.k.n HS hHS
                  generalize upd H16 HS (.lst ((srtBy PyData.str hs).map V.str)) = H17 at I17 hS17 hR17 hD17 ⊢
                  clear h16 hR16 hD16 kHS hHS
                  refine ⟨DL, _, hD17, trivial, fun od => ⟨_, rfl, DL, od, rfl, .inr ⟨_, upd_same, fun D hD => ?_⟩⟩⟩
                  have nDD : DL ≠ D := fun z => by rw [← z, upd_same] at hD; cases hD
                  have hD0 : H17 D = none := by rw [upd_ne nDD.symm] at hD; exact hD
                  refine lc_acc walk_keysT T [] hD (by simp) (by rw [List.length_map]; exact Nat.le_trans (by omega : ls.length ≤ 3000) (by decide)) (fun i acc H' => TT (fun p : Str × Str × Int => [V.str p.1, .str p.2.1, .int p.2.2]) (off l H') acc (ls.take i)) .nil
                    (fun H' k' => k'.k DL _ (by simp [nDD]) upd_same fun _ z => by cases z) (fun i y acc H' H'' Q' Qn hi hn k' hDa R y' hk _ => ?_) fun H18 acc k' R hDa hal => ?_
                  · obtain ⟨rfl, kk, vv, q, ek, rfl, hq⟩ := y'
                    rw [List.getElem?_map] at ek
                    obtain ⟨p, ep, e⟩ := Option.map_eq_some_iff.mp ek
                    cases e
                    have hf : H'' DL = some (.frz od (.dT (ls.map fun p => ([Sum.inr p.1, Sum.inr p.2.1], V.int p.2.2)))) := k'.k DL _ (by simp [nDD]) upd_same fun _ z => by cases z
                    refine ⟨q, _, rfl, SqT.of hq, rfl, _, _, rfl, _, _, rfl, rfl, rfl, _, rfl, _, rfl, _, rfl, _, rfl, _, rfl, by show 2 ≤ sizeLine; decide, fun q2 hq2 => ⟨DL, .int p.2.2, rfl, .inr ⟨_, [Sum.inr p.1, Sum.inr p.2.1], q2, .inr ⟨od, by rw [upd_ne (ne_of_none hf hq2)]; exact hf⟩, rfl, upd_same, ?_⟩, by show 3 ≤ sizeLine; decide, fun q3 hq3 => hk _ _ ((Kp.new hq2).trans (Kp.new hq3)) ?_⟩⟩
                    · exact (valV_atG hnd (i := i) (by rw [List.getElem?_map, ep]; rfl)).symm
                    · have hD' : upd H'' q2 (.tup [.str p.1, .str p.2.1]) D = some (.lst acc) := by rw [upd_ne (ne_of_none hDa hq2)]; exact hDa
                      have n3D : q3 ≠ D := (ne_of_none hD' hq3).symm
                      have n3l : q3 ∉ l := fun z => hL.there q3 z (I17.k.n q3 (by
                        have e := k'.n q3 (upd_none' hq3)
                        by_cases hz : q3 = DL
                        · rw [hz, upd_same] at e; cases e
                        · rw [upd_ne hz] at e; exact e))
                      rw [List.take_add_one, ep]
                      refine (R.tk (Ke.tk ?_)).snoc (off_some n3l (off_some (by simp [n3D]) upd_same))
                      rw [off_off, off_off]
                      exact (((Kp.new (T := T) (l := []) hq2).trans (Kp.new hq3)).mono (by simp)).ke
                  · rw [List.length_map, List.take_length] at R
                    have kU : Kp T [] H17 (upd H18 DL (.dT (ls.map fun p => ([Sum.inr p.1, Sum.inr p.2.1], V.int p.2.2)))) := kp_unlock (k'.drop hD) hD17 (fun _ z => by cases z) (by simp) (fun _ z => by cases z)
                    refine ⟨k'.k DL _ (by simp [nDD]) upd_same (fun _ z => by cases z), ?_⟩
                    have hDu : upd H18 DL (.dT (ls.map fun p => ([Sum.inr p.1, Sum.inr p.2.1], V.int p.2.2))) D = some (.lst acc) := by rw [upd_ne nDD.symm]; exact hDa
                    have hf18 : H18 DL = some (.frz od (.dT (ls.map fun p => ([Sum.inr p.1, Sum.inr p.2.1], V.int p.2.2)))) := k'.k DL _ (by simp [nDD]) upd_same fun _ z => by cases z
                    have hacc : RpA K (off l (upd H18 DL (.dT (ls.map fun p => ([Sum.inr p.1, Sum.inr p.2.1], V.int p.2.2))))) acc (ls.map lnD) := by
                      refine (R.tk (fun q zs e => ?_) : TT _ _ acc ls).rp (g := lnA) fun p => .cons (.str _) (.cons (.str _) (.cons (.int _) .nil))
                      obtain ⟨e1, e2⟩ := of_off e
                      obtain ⟨_, e3⟩ := of_off e2
                      exact off_some e1 (by rw [upd_ne (ne_of e3 hf18 fun z => by cases z)]; exact e3)
                    have I19 := I17.new kU
                    have hS19 := kU.lst (by simp) hS17
                    have hR19 := kU.dK (by simp) hR17
                    generalize upd H18 DL (.dT (ls.map fun p => ([Sum.inr p.1, Sum.inr p.2.1], V.int p.2.2))) = H19 at kU hDu hacc I19 hS19 hR19 ⊢
                    refine ⟨D, acc, ls.map lnD, rfl, .inl ⟨true, SqL.of hDu⟩, (hacc.ke Ke.off).dp (noDA_map ls fun _ => rfl), PySem.W.AllAlike.of (fun _ _ => by simp [lnD, PySem.W.alike, PySem.W.alikeAll]), PySem.W.Sortable.tuples (fun b => ⟨_, _, rfl⟩), fun d hd => ?_, fun LS hLS => ⟨by show 3 ≤ sizeLine; decide, fun tp htp => ?_⟩⟩
                    · obtain ⟨r, -, rfl⟩ := List.mem_map.mp hd
                      simp [lnD, PyData.depth, PyData.depthAll]
                    have hzs : RpA K (off l H19) (srtV acc (ls.map lnD)) ((srtBy lnD ls).map lnD) := by
                      rw [← srtD_map]
                      exact rpA_srt hacc
                    generalize srtV acc (ls.map lnD) = zs at hzs htp ⊢
                    have kE : Kp T [] H19 (upd (upd H19 LS (.lst zs)) tp (.tup [.ref RD, .ref HS, .ref LS])) := (Kp.new hLS).trans (Kp.new htp)
                    have nLt : LS ≠ tp := fun z => by rw [← z, upd_same] at htp; cases htp
                    have hLE : (upd (upd H19 LS (.lst zs)) tp (.tup [.ref RD, .ref HS, .ref LS])) LS = some (.lst zs) := by rw [upd_ne nLt, upd_same]
                    have hTE : (upd (upd H19 LS (.lst zs)) tp (.tup [.ref RD, .ref HS, .ref LS])) tp = some (.tup [.ref RD, .ref HS, .ref LS]) := upd_same
                    have IE := I19.new kE
                    have hSE := kE.lst (by simp) hS19
                    have hRE := kE.dK (by simp) hR19
                    have nl : ∀ {a}, H a = none → a ∉ l := fun e h => hL.there _ h e
                    have hLS0 : H LS = none := I19.k.n LS hLS
                    have htp0 : H tp = none := I19.k.n tp (upd_none' htp)
                    have hzE := hzs.ke (kE.mono (l' := l) (by simp)).ke
                    dsimp only
                    generalize (upd (upd H19 LS (.lst zs)) tp (.tup [.ref RD, .ref HS, .ref LS])) = HE at hLE hTE IE hSE hRE hzE ⊢
                    have hperm := srtBy_perm PyData.str hs
                    have lperm := srtBy_perm lnD ls
                    have mr : ∀ z, z ∈ rs.map (·.1) ↔ z ∈ ins := fun z => by rw [q2]; exact sperm.mem_iff
                    have hrl : rs.length = ins.length := by rw [← sperm.length_eq, ← q2, List.length_map]
                    refine k (.ref tp) ⟨rs, srtBy PyData.str hs, srtBy lnD ls⟩ HE IE.k (.tup (SqT.of (off_some (nl htp0) hTE)) (.cons (.dct (off_some (nl hRD0) hRE) (rpD_rm rs)) (.cons (.lst (off_some (nl hHS0) hSE) (rpA_strs _)) (.cons (.lst (off_some (nl hLS0) hLE) hzE) .nil)))) ?_ (by show rs.length + (srtBy PyData.str hs).length ≤ _; rw [hrl, hperm.length_eq]; exact isl2) (by show (srtBy PyData.str hs).length ≤ 3; rw [hperm.length_eq]; exact hsl3.2) (by show (srtBy lnD ls).length ≤ _; rw [lperm.length_eq]; omega) (fun p hp => (q3 p hp).2) (fun p hp => (hls p (lperm.mem_iff.mp hp)).2.2.2.2) (fun z hz => hz.elim (fun h => (ism z ((mr z).mp h)).2) fun h => (hsm z (hperm.mem_iff.mp h)).2) (IE.s.mono (by omega))
                    refine ⟨fun p hp => ⟨(ism _ ((mr _).mp (List.mem_map.mpr ⟨p, hp, rfl⟩))).1, (q3 p hp).1⟩, ndr, fun z hz => ?_, hperm.nodup_iff.mpr hsn, fun p hp => ?_, ?_, by show rs.length ≤ _; rw [hrl]; omega, by show (srtBy PyData.str hs).length ≤ _; rw [hperm.length_eq]; omega, by show (srtBy lnD ls).length ≤ _; rw [lperm.length_eq]; omega⟩
                    · have hz' := hperm.mem_iff.mp hz
                      exact ⟨(hsm z hz').1, fun h => hdj z ((mr z).mp h) hz'⟩
                    · obtain ⟨a1, a2, a3, a4, _⟩ := hls p (lperm.mem_iff.mp hp)
                      exact ⟨(mr _).mpr a1, a2.imp (mr _).mpr hperm.mem_iff.mpr, a3, by omega⟩
                    · refine ((lperm.map _).nodup_iff).mpr ?_
                      rw [List.map_map] at hnd
                      refine List.pairwise_map.mpr ((List.pairwise_map.mp hnd).imp fun {x y} h e => h ?_)
                      injection e with e1 e2
                      show [Sum.inr x.1, Sum.inr x.2.1] = [Sum.inr y.1, Sum.inr y.2.1]
                      rw [e1, e2]
end
end Sky
set_option Elab.async false
set_option linter.all false
set_option maxRecDepth 100000
set_option maxHeartbeats 4000000
namespace Sky
open PySem PySem.Spec PyProof.Rows L2 LamX NdefX
/-- a space as a list of its parts -/
def toldD (S : SpD) : PyData := .list [dictD S.rooms, .list (S.homes.map .str), .list (S.lanes.map lnD)]
theorem dpt_lnD (p : Str × Str × Int) : dpt (lnD p) ≤ 1 := by simp [lnD, dpt, dptA]
theorem ow_lanes {K : PySem.W.Frag} {H : Hp} {ls : List V} {lanes : List (Str × Str × Int)} (h : RpA K H ls (lanes.map lnD)) : OwA K H ls 1 [] := h.ow0 (tupOA_map tupO_lnD _) 1 (dptA_map dpt_lnD _)
theorem vals_rmK (rooms : List (Str × Int)) : (rmK rooms).map (·.2) = (rooms.map (·.2)).map V.int := by
  unfold rmK
  rw [List.map_map, List.map_map]
  rfl
theorem ow_rmK {K : PySem.W.Frag} {H : Hp} {a : Addr} {rooms : List (Str × Int)} (n : Nat) (h : H a = some (.dK (rmK rooms))) (hz : rooms.length ≤ 1000000) : Ow K H (.ref a) (n + 1) [a] :=
  .dct h (by unfold rmK; rw [List.length_map]; exact hz) (by rw [vals_rmK]; exact ow_ints n _) (by simp)
theorem ow_strL {K : PySem.W.Frag} {H : Hp} {a : Addr} {ns : List Str} (n : Nat) (h : H a = some (.lst (ns.map V.str))) (hz : ns.length ≤ 1000000) : Ow K H (.ref a) (n + 1) [a] :=
  .lst h (by rw [List.length_map]; exact hz) (ow_strs n _) (by simp)
/-- three parts of a told space, in a list of their own -/
theorem told_at {K : PySem.W.Frag} {H : Hp} {l : List Addr} {L p1 p2 p3 : Addr} {ls : List V} {S : SpD} (h1 : H p1 = some (.dK (rmK S.rooms))) (h2 : H p2 = some (.lst (S.homes.map V.str))) (h3 : H p3 = some (.lst ls)) (hr : RpA K (off l H) ls (S.lanes.map lnD))
    (hL : H L = some (.lst [.ref p1, .ref p2, .ref p3])) (n0 : L ∉ l) (n1 : p1 ∉ l) (n2 : p2 ∉ l) (n3 : p3 ∉ l) (n12 : p1 ≠ p2) (n13 : p1 ≠ p3) (n23 : p2 ≠ p3) (m1 : L ≠ p1) (m2 : L ≠ p2) (m3 : L ≠ p3)
    (z1 : S.rooms.length ≤ 1000000) (z2 : S.homes.length ≤ 1000000) (z3 : S.lanes.length ≤ 1000000) : Rp K (off l H) (.ref L) (toldD S) ∧ Ow K H (.ref L) 3 [L, p1, p2, p3] := by
  refine ⟨.lst (off_some n0 hL) (.cons (.dct (off_some n1 h1) (rpD_rm _)) (.cons (.lst (off_some n2 h2) (rpA_strs _)) (.cons (.lst (off_some n3 h3) hr) .nil))), ?_⟩
  have q3 : Ow K H (.ref p3) 2 [p3] := .lst h3 (by rw [hr.length, List.length_map]; exact z3) (ow_lanes (hr.ke Ke.off)) (by simp)
  have q : OwA K H [.ref p1, .ref p2, .ref p3] 2 ([p1] ++ ([p2] ++ ([p3] ++ []))) := OwA.cons (ow_rmK 1 h1 z1) (OwA.cons (ow_strL 1 h2 z2) (OwA.cons q3 .nil (fun _ _ z => by cases z)) (by unfold Dj; simp [n23])) (by unfold Dj; simp [n12, n13])
  exact .lst hL (by simp) q (by simp [m1, m2, m3])
section
variable {P : Program} {w : World} {K : PySem.W.Frag} {mg : Str → Option Value} {base : Heap} {T : List NTab} {C : Addr}
abbrev s_told : Stmt := top 29
abbrev n_told : List Str := ["made"]
theorem sc_told : FnScope n_told ["made"] (defScope s_told) := ⟨rfl, rfl, rfl, by decide +kernel, rfl, by decide +kernel, by decide +kernel⟩
/-- the sizes of a space -/
def SzS (S : SpD) : Prop := S.rooms.length ≤ 1000000 ∧ S.homes.length ≤ 1000000 ∧ S.lanes.length ≤ 1000000
def sp_told (K : PySem.W.Frag) (T : List NTab) (C : Addr) : Sp := fun vs H Q _ => ∃ (l : List Addr) (x : Addr) (S : SpD), vs = [.ref x] ∧ SpAt K C (off l H) x S ∧ (∀ a ∈ l, H a ≠ none) ∧ (S.rooms.map (·.1)).Nodup ∧ SzS S ∧
  ∀ v as H', Kp T [] H H' → Rp K (off l H') v (toldD S) → Ow K H' v 3 as → (∀ a ∈ as, H a = none) → Q v H'
theorem d_told (cs : ClsS K mg C) (M1 : MetOk P w K mg base 1 C "rooms" (sp_rooms T C)) (M2 : MetOk P w K mg base 1 C "homes" (sp_homes T C)) (M3 : MetOk P w K mg base 1 C "lanes" (sp_lanes K T C)) (F : TopFn K mg "_law_told" s_told) : DefOk P w K mg base 2 "_law_told" (sp_told K T C) := by
  refine F.ok sc_told (fun _ _ _ _ _ _ us hl => match us, hl with | [_], _ => rfl) (fun vs H Q E h => ?_) (fun f cdv A outer s H vs Q E hr h => ?_)
  · obtain ⟨l, x, S, rfl, _⟩ := h
    rfl
  · obtain ⟨l, x, S, rfl, hS, hl, nd, ⟨z1, z2, z3⟩, k⟩ := h
    refine ⟨_, (pss_one (ps_ret (pe_lst (pa_cons (pe_m0 M1 cs.cl hr (pv 0)) (pa_cons (pe_m0 M2 cs.cl hr (pv 0)) (pa_cons (pe_m0 M3 cs.cl hr (pv 0)) pa_nil)))))), ?_⟩
    obtain ⟨dx, fs, a1, a2⟩ := (hS.m "rooms" (by decide) (by decide) (by decide) (by decide)).ke Ke.off
    refine ⟨_, rfl, x, dx, fs, rfl, a1, a2, x, S.rooms, rfl, hS.r.ke Ke.off, nd, z1, fun p1 H1 f1 k1 e1 => ?_⟩
    obtain ⟨dx', fs', b1, b2⟩ := ((hS.m "homes" (by decide) (by decide) (by decide) (by decide)).ke Ke.off).ke k1.ke0
    refine ⟨_, rfl, x, dx', fs', rfl, b1, b2, x, S.homes, rfl, (hS.h.ke Ke.off).ke k1.ke0, fun p2 H2 f2 k2 e2 => ?_⟩
    have k02 := k1.trans k2
    obtain ⟨dx'', fs'', c1, c2⟩ := ((hS.m "lanes" (by decide) (by decide) (by decide) (by decide)).ke Ke.off).ke k02.ke0
    refine ⟨_, rfl, x, dx'', fs'', rfl, c1, c2, l, x, S.lanes, rfl, hS.l.ke (k02.mono (l' := l) (by simp)).ke, fun p3 ls H3 f3 k3 e3 r3 => ⟨by show 3 ≤ sizeLine; decide, fun L hL => ?_⟩⟩
    have k03 := k02.trans k3
    have k4 : Kp T [] H3 (upd H3 L (.lst [.ref p1, .ref p2, .ref p3])) := Kp.new hL
    have nl : ∀ p, H p = none → p ∉ l := fun p h z => hl p z h
    have g2 := k1.n _ f2
    have g3 := k02.n _ f3
    have g0 := k03.n _ hL
    have e1' := k3.dK (by simp) (k2.dK (by simp) e1)
    have e2' := k3.lst (by simp) e2
    have q := told_at (l := l) (S := S) (k4.dK (by simp) e1') (k4.lst (by simp) e2') (k4.lst (by simp) e3) (r3.ke (k4.mono (l' := l) (by simp)).ke) upd_same (nl _ g0) (nl _ f1) (nl _ g2) (nl _ g3) (none_ne e1 f2).symm (none_ne (k2.dK (by simp) e1) f3).symm (none_ne e2 f3).symm (none_ne e1' hL) (none_ne e2' hL) (none_ne e3 hL) z1 z2 z3
    refine k _ _ _ (k03.trans k4) q.1 q.2 fun a ha => ?_
    simp at ha
    rcases ha with rfl | rfl | rfl | rfl
    · exact g0
    · exact f1
    · exact g2
    · exact g3
end
end Sky
set_option Elab.async false
set_option linter.all false
set_option maxRecDepth 100000
set_option maxHeartbeats 4000000
namespace Sky
open PySem PySem.Spec PyProof.Rows L2 LamX NdefX
theorem rpD_rm_inv {K : PySem.W.Frag} {H : Hp} : ∀ {rooms : List (Str × Int)} {xs : List (Key × V)} {ds : List (PyData × PyData)}, RpD K H xs ds → ds = rooms.map (fun p => (PyData.str p.1, PyData.int p.2)) → xs = rmK rooms
  | [], _, _, .nil, _ => rfl
  | p :: r, _, _, .nil, e => by simp at e
  | [], _, _, .cons .., e => by simp at e
  | p :: r, _, _, .cons (k := k) (v := v) (d := d) h t, e => by
    rw [List.map_cons] at e
    injection e with e1 e2
    injection e1 with e3 e4
    subst e4
    cases h
    have ek : k = Sum.inr p.1 := by
      cases k with
      | inl i => cases e3
      | inr x => cases e3; rfl
    rw [ek, rpD_rm_inv t e2]
    rfl
/-- the three parts of a space held as a tuple -/
theorem rp_spD {K : PySem.W.Frag} {H : Hp} {v : V} {S : SpD} (h : Rp K H v (spD S)) : ∃ (a r1 r2 r3 : Addr) (ls : List V), v = .ref a ∧ SqT K H a [.ref r1, .ref r2, .ref r3] ∧ H r1 = some (.dK (rmK S.rooms)) ∧ H r2 = some (.lst (S.homes.map V.str)) ∧ H r3 = some (.lst ls) ∧ RpA K H ls (S.lanes.map lnD) := by
  cases h with
  | tup h1 h2 =>
    cases h2 with
    | cons q1 h2 =>
    cases h2 with
    | cons q2 h2 =>
    cases h2 with
    | cons q3 h2 =>
    cases h2
    cases q1 with
    | dct a1 a2 =>
    cases q2 with
    | lst b1 b2 =>
    cases q3 with
    | lst c1 c2 =>
    rw [rpD_rm_inv a2 rfl] at a1
    rw [rpA_str_inv b2] at b1
    exact ⟨_, _, _, _, _, rfl, h1, a1, b1, c1, c2⟩
/-- a space's parts sorted -/
def dueS (S : SpD) : SpD := ⟨(srtBy PyData.str (S.rooms.map (·.1))).map fun n => (n, (rget S.rooms n).getD 0), srtBy PyData.str S.homes, srtBy lnD S.lanes⟩
theorem rget_some {rooms : List (Str × Int)} {n : Str} (h : n ∈ rooms.map (·.1)) : rget rooms n = some ((rget rooms n).getD 0) := by
  induction rooms with
  | nil => cases h
  | cons p r ih =>
    unfold rget at ih ⊢
    rw [List.find?_cons]
    by_cases e : p.1 = n
    · rw [decide_eq_true e]
      rfl
    · rw [decide_eq_false e]
      refine ih ?_
      rcases List.mem_cons.mp h with h | h
      · exact (e h.symm).elim
      · exact h
theorem due_names (S : SpD) : (dueS S).rooms.map (·.1) = srtBy PyData.str (S.rooms.map (·.1)) := by
  unfold dueS
  rw [List.map_map]
  exact List.map_id _
theorem due_nd {S : SpD} (h : (S.rooms.map (·.1)).Nodup) : ((dueS S).rooms.map (·.1)).Nodup := by
  rw [due_names]
  exact (srtBy_perm _ _).nodup_iff.mpr h
section
variable {P : Program} {w : World} {K : PySem.W.Frag} {mg : Str → Option Value} {base : Heap} {T : List NTab} {C : Addr}
abbrev s_due : Stmt := top 30
abbrev n_due : List Str := ["space", "rooms", "homes", "lanes", "corridor"]
theorem sc_due : FnScope n_due ["space"] (defScope s_due) := ⟨rfl, rfl, rfl, by decide +kernel, rfl, by decide +kernel, by decide +kernel⟩
def sp_due (K : PySem.W.Frag) (T : List NTab) : Sp := fun vs H Q _ => ∃ (l : List Addr) (v : V) (S : SpD), vs = [v] ∧ Rp K (off l H) v (spD S) ∧ (∀ a ∈ l, H a ≠ none) ∧ (S.rooms.map (·.1)).Nodup ∧ SzS S ∧
  ∀ v as H', Kp T [] H H' → Rp K (off l H') v (toldD (dueS S)) → Ow K H' v 3 as → (∀ a ∈ as, H a = none) → Q v H'
theorem d_due (B : Blt mg) (F : TopFn K mg "_law_due" s_due) : DefOk P w K mg base 1 "_law_due" (sp_due K T) := by
  refine F.ok sc_due (fun _ _ _ _ _ _ us hl => match us, hl with | [_], _ => rfl) (fun vs H Q E h => ?_) (fun f cdv A outer s H vs Q E hr h => ?_)
  · obtain ⟨l, v, S, rfl, _⟩ := h
    rfl
  · obtain ⟨l, v, S, rfl, hS, hl, nd, ⟨z1, z2, z3⟩, k⟩ := h
    refine ⟨_, (pss_cons (ps_asg (pv 0) (pg_tup rfl (pgs_cons (pg_name (i := 1) sc_due.nd rfl (Or.inr rfl)) (pgs_cons (pg_name (i := 2) sc_due.nd rfl (Or.inl rfl)) (pgs_cons (pg_name (i := 3) sc_due.nd rfl (Or.inl rfl)) pgs_nil)))))
      (pss_one (ps_ret (pe_lst (pa_cons (e_dict B (pa_cons (pe_lc (own := [("corridor", 4)]) (g := gName 4) (tt := tYes) (by rfl) sc_due.nd (pi_seq (e_sorted B (pa_cons (pv 1) pa_nil) hr.units)) (blkOk_by (N := n_due) (sc := defScope s_due) (by decide +kernel)) (fun _ _ _ _ _ => (pg_name (i := 4) sc_due.nd rfl (Or.inl rfl))) (fun _ _ _ _ _ => pts_nil) (fun _ _ _ _ _ => (pe_tup (pa_cons (pv 4) (pa_cons (pe_dget (hu_of hr) (pv 1) (pv 4) (fun _ _ => rfl)) pa_nil))))) pa_nil)) (pa_cons (e_sorted B (pa_cons (pv 2) pa_nil) hr.units) (pa_cons (e_sorted B (pa_cons (pv 3) pa_nil) hr.units) pa_nil))))))), ?_⟩
    obtain ⟨a, r1, r2, r3, ls, rfl, h0, h1, h2, h3, h4⟩ := rp_spD hS
    obtain ⟨m1, h1⟩ := of_off h1
    obtain ⟨m2, h2⟩ := of_off h2
    obtain ⟨m3, h3⟩ := of_off h3
    dsimp only
    refine rd_seq (rd_asg ⟨_, rfl, a, _, rfl, Ke.off.tq h0, rfl, _, _, rfl, _, _, rfl, _, _, rfl, rfl, ?_⟩)
    generalize hns : S.rooms.map (·.1) = ns at nd
    have hkeys : (rmK S.rooms).map (fun kv => kV kv.1) = ns.map V.str := by
      unfold rmK
      rw [← hns, List.map_map, List.map_map]
      rfl
    have eS : srtV (ns.map V.str) (ns.map PyData.str) = (srtBy PyData.str ns).map V.str := by
      have q := rpA_srt (rpA_strs (K := K) (H := H) ns)
      rw [srtD_map] at q
      exact rpA_str_inv q
    have eH : ∀ ns : List Str, srtV (ns.map V.str) (ns.map PyData.str) = (srtBy PyData.str ns).map V.str := fun ns => by
      have q := rpA_srt (rpA_strs (K := K) (H := H) ns)
      rw [srtD_map] at q
      exact rpA_str_inv q
    have hls : ns.length ≤ 1000000 := by rw [← hns, List.length_map]; exact z1
    have sperm := srtBy_perm PyData.str ns
    refine ⟨_, rfl, r1, ns.map V.str, ns.map PyData.str, rfl, .inr ⟨_, h1, hkeys.symm⟩, (rpA_strs ns).dp (noDA_map ns fun _ => rfl), PySem.W.AllAlike.of (fun _ _ => by simp [PySem.W.alike]), PySem.W.Sortable.others (fun b => ⟨(fun z => by cases z), (fun _ z => by cases z)⟩), fun d hd => ?_, fun SL hSL => ?_⟩
    · obtain ⟨r, -, rfl⟩ := List.mem_map.mp hd
      simp [PyData.depth]
    rw [eS]
    have kS : Kp T [] H (upd H SL (.lst ((srtBy PyData.str ns).map V.str))) := Kp.new hSL
    have hS1 : (upd H SL (.lst ((srtBy PyData.str ns).map V.str))) SL = some (.lst ((srtBy PyData.str ns).map V.str)) := upd_same
    generalize upd H SL (.lst ((srtBy PyData.str ns).map V.str)) = H1 at kS hS1 ⊢
    have h11 := kS.dK (by simp) h1
    refine ⟨SL, _, true, rfl, SqL.of hS1, fun J Gj hsz W hG D hD => ?_⟩
    have nD1 : SL ≠ D := ne_of_none hS1 hD
    have nD2 : r1 ≠ D := ne_of_none h11 hD
    refine lc_acc W T [] hD (by simp) hsz (fun i acc H' => TT (fun n : Str => [V.str n, .int ((rget S.rooms n).getD 0)]) H' acc ((srtBy PyData.str ns).take i)) .nil (fun H' k' => hG H' (SqL.of (k'.lst (by simp [nD1]) hS1))) (fun j y acc H' H'' Q' Qn hj hn k' hDa R y' hk _ => ?_) fun H5 acc k' R hDa hal => ?_
    · obtain ⟨rfl, ey⟩ := y'
      rw [List.getElem?_map] at ey
      obtain ⟨z, ez, rfl⟩ := Option.map_eq_some_iff.mp ey
      have hz : z ∈ S.rooms.map (·.1) := by rw [hns]; exact sperm.mem_iff.mp (List.mem_of_getElem? ez)
      have h1q := k'.dK (by simp [nD2]) h11
      refine ⟨rfl, _, rfl, _, rfl, _, rfl, r1, .int ((rget S.rooms z).getD 0), rfl, ?_, by show 2 ≤ sizeLine; decide, fun p hp => hk _ _ (Kp.new hp) ?_⟩
      · have q := DGet.k (k := Sum.inr z) h1q
        have e := valV_get S.rooms z
        rw [rget_some hz] at e
        rw [show valV (rmK S.rooms) (Sum.inr z) = some (V.int ((rget S.rooms z).getD 0)) from e] at q
        exact q
      · have npD : p ≠ D := fun e => by rw [e, hDa] at hp; cases hp
        rw [List.take_add_one, ez]
        refine (R.tk fun a zs e => ?_).snoc (off_some (by simp [npD]) upd_same)
        obtain ⟨e1, e2⟩ := of_off e
        exact off_some e1 (Tk.new hp _ _ e2)
    · rw [List.length_map, List.take_length] at R
      have R := (R.tk fun a zs e => (of_off e).2 : TT _ H5 acc _)
      obtain ⟨pp, rfl, hpp⟩ := R.refs
      have k5 := kS.trans (k'.drop hD)
      have ndr := due_nd (S := S) (by rw [hns]; exact nd)
      have zdr : (dueS S).rooms.length ≤ 1000000 := by
        have : ((dueS S).rooms.map (·.1)).length ≤ 1000000 := by rw [due_names, (srtBy_perm _ _).length_eq, List.length_map]; exact z1
        rwa [List.length_map] at this
      refine ⟨D, pp, rmK (dueS S).rooms, rfl, SqL.of hDa, ?_, fun p1 hp1 => ?_⟩
      · unfold rmK dueS
        dsimp only
        rw [hns, List.map_map]
        exact paired_map hpp fun p r e => SqT.of e
      rw [mergeK_nd (rmK_nodup ndr)]
      have k6 : Kp T [] H5 (upd H5 p1 (.dK (rmK (dueS S).rooms))) := Kp.new hp1
      have hp1' : (upd H5 p1 (.dK (rmK (dueS S).rooms))) p1 = some (.dK (rmK (dueS S).rooms)) := upd_same
      have f1 := k5.n _ hp1
      generalize upd H5 p1 (.dK (rmK (dueS S).rooms)) = H6 at k6 hp1' ⊢
      have k06 := k5.trans k6
      refine ⟨_, rfl, r2, S.homes.map V.str, S.homes.map PyData.str, rfl, .inl ⟨true, SqL.of (k06.lst (by simp) h2)⟩, (rpA_strs _).dp (noDA_map _ fun _ => rfl), PySem.W.AllAlike.of (fun _ _ => by simp [PySem.W.alike]), PySem.W.Sortable.others (fun b => ⟨(fun z => by cases z), (fun _ z => by cases z)⟩), fun d hd => ?_, fun p2 hp2 => ?_⟩
      · obtain ⟨r, -, rfl⟩ := List.mem_map.mp hd
        simp [PyData.depth]
      rw [eH]
      have k7 : Kp T [] H6 (upd H6 p2 (.lst ((srtBy PyData.str S.homes).map V.str))) := Kp.new hp2
      have hp2' : (upd H6 p2 (.lst ((srtBy PyData.str S.homes).map V.str))) p2 = some (.lst ((srtBy PyData.str S.homes).map V.str)) := upd_same
      have f2 := k06.n _ hp2
      have n12 := none_ne hp1' hp2
      have hp1' := k7.dK (by simp) hp1'
      generalize upd H6 p2 (.lst ((srtBy PyData.str S.homes).map V.str)) = H7 at k7 hp2' hp1' ⊢
      have k07 := k06.trans k7
      have h47 := h4.ke (k07.mono (l' := l) (by simp)).ke
      refine ⟨_, rfl, r3, ls, S.lanes.map lnD, rfl, .inl ⟨true, SqL.of (k07.lst (by simp) h3)⟩, (h47.ke Ke.off).dp (noDA_map _ fun _ => rfl), PySem.W.AllAlike.of (fun _ _ => by simp [lnD, PySem.W.alike, PySem.W.alikeAll]), PySem.W.Sortable.tuples (fun b => ⟨_, _, rfl⟩), fun d hd => ?_, fun p3 hp3 => ⟨by show 3 ≤ sizeLine; decide, fun L hL => ?_⟩⟩
      · obtain ⟨r, -, rfl⟩ := List.mem_map.mp hd
        simp [lnD, PyData.depth, PyData.depthAll]
      have hzs : RpA K (off l H7) (srtV ls (S.lanes.map lnD)) ((dueS S).lanes.map lnD) := by
        show RpA K _ _ ((srtBy lnD S.lanes).map lnD)
        rw [← srtD_map]
        exact rpA_srt h47
      generalize srtV ls (S.lanes.map lnD) = zs at hzs hL ⊢
      have k8 : Kp T [] H7 (upd H7 p3 (.lst zs)) := Kp.new hp3
      have hp3' : (upd H7 p3 (.lst zs)) p3 = some (.lst zs) := upd_same
      have f3 := k07.n _ hp3
      have n13 := none_ne hp1' hp3
      have n23 := none_ne hp2' hp3
      have hp1' := k8.dK (by simp) hp1'
      have hp2' := k8.lst (by simp) hp2'
      have hzs := hzs.ke (k8.mono (l' := l) (by simp)).ke
      generalize upd H7 p3 (.lst zs) = H8 at k8 hp1' hp2' hp3' hzs hL ⊢
      have k08 := k07.trans k8
      have kE : Kp T [] H8 (upd H8 L (.lst [.ref p1, .ref p2, .ref p3])) := Kp.new hL
      have g0 := k08.n _ hL
      have nl : ∀ p, H p = none → p ∉ l := fun p h z => hl p z h
      have q := told_at (l := l) (S := dueS S) (kE.dK (by simp) hp1') (kE.lst (by simp) hp2') (kE.lst (by simp) hp3') (hzs.ke (kE.mono (l' := l) (by simp)).ke) upd_same (nl _ g0) (nl _ f1) (nl _ f2) (nl _ f3) n12.symm n13.symm n23.symm (none_ne hp1' hL) (none_ne hp2' hL) (none_ne hp3' hL) zdr (by show (srtBy PyData.str S.homes).length ≤ _; rw [(srtBy_perm _ _).length_eq]; exact z2) (by show (srtBy lnD S.lanes).length ≤ _; rw [(srtBy_perm _ _).length_eq]; exact z3)
      refine k _ _ _ (k08.trans kE) q.1 q.2 fun a ha => ?_
      simp at ha
      rcases ha with rfl | rfl | rfl | rfl
      · exact g0
      · exact f1
      · exact f2
      · exact f3
end
end Sky
set_option Elab.async false
set_option linter.all false
set_option maxRecDepth 100000
set_option maxHeartbeats 4000000
namespace Sky
open PySem PySem.Spec PyProof.Rows L2 LamX NdefX
/-- values in another order stand for data in another order -/
theorem rpA_perm {K : PySem.W.Frag} {H : Hp} {ys xs : List V} (p : ys.Perm xs) : ∀ {ds : List PyData}, RpA K H xs ds → ∃ es, es.Perm ds ∧ RpA K H ys es := by
  induction p with
  | nil => intro ds h; exact ⟨_, .refl _, h⟩
  | cons x _ ih =>
    intro ds h
    cases h with
    | cons h t =>
      obtain ⟨es, e1, e2⟩ := ih t
      exact ⟨_, e1.cons _, .cons h e2⟩
  | swap x y r =>
    intro ds h
    cases h with
    | cons h t =>
      cases t with
      | cons h2 t => exact ⟨_, .swap .., .cons h2 (.cons h t)⟩
  | trans _ _ ih1 ih2 =>
    intro ds h
    obtain ⟨es, e1, e2⟩ := ih2 h
    obtain ⟨fs, f1, f2⟩ := ih1 e2
    exact ⟨fs, f1.trans e1, f2⟩
/-- a small thing: a text, a number, a tuple of such -/
def Flt (d : PyData) : Prop := cnt d ≤ 1 ∧ smal d = true ∧ noD d = true ∧ lv d ≤ 1
theorem cntA_flt : ∀ {ds : List PyData}, (∀ d ∈ ds, Flt d) → cntA ds ≤ ds.length
  | [], _ => by simp [cntA]
  | d :: ds, h => by
    have := cntA_flt fun d hd => h d (List.mem_cons_of_mem _ hd)
    have := (h d (List.mem_cons_self ..)).1
    simp only [cntA, List.length_cons]
    omega
theorem smalA_flt : ∀ {ds : List PyData}, (∀ d ∈ ds, Flt d) → smalA ds = true
  | [], _ => by simp [smalA]
  | d :: ds, h => by simp [smalA, smalA_flt fun d hd => h d (List.mem_cons_of_mem _ hd), (h d (List.mem_cons_self ..)).2.1]
theorem noDA_flt : ∀ {ds : List PyData}, (∀ d ∈ ds, Flt d) → noDA ds = true
  | [], _ => by simp [noDA]
  | d :: ds, h => by simp [noDA, noDA_flt fun d hd => h d (List.mem_cons_of_mem _ hd), (h d (List.mem_cons_self ..)).2.2.1]
theorem lvA_flt : ∀ {ds : List PyData}, (∀ d ∈ ds, Flt d) → lvA ds ≤ 1
  | [], _ => by simp [lvA]
  | d :: ds, h => by
    have := lvA_flt fun d hd => h d (List.mem_cons_of_mem _ hd)
    have := (h d (List.mem_cons_self ..)).2.2.2
    simp only [lvA]
    omega
theorem flt_str (z : Str) : Flt (.str z) := by simp [Flt, cnt, smal, noD, lv]
theorem flt_rm (p : Str × Int) : Flt (rmD p) := by simp [Flt, rmD, cnt, cntA, smal, smalA, noD, noDA, lv, lvA]
theorem flt_ln (p : Str × Str × Int) : Flt (lnD p) := by simp [Flt, lnD, cnt, cntA, smal, smalA, noD, noDA, lv, lvA]
/-- mixed and loosened -/
def PmLo (d e : PyData) : Prop := ∃ xs ys, d = .list xs ∧ ys.Perm xs ∧ Lo (.list ys) e
theorem flt_map {α : Type} {f : α → PyData} (h : ∀ a, Flt (f a)) (l : List α) : ∀ d ∈ l.map f, Flt d := fun d hd => by
  obtain ⟨a, -, rfl⟩ := List.mem_map.mp hd
  exact h a
section
variable {P : Program} {w : World} {K : PySem.W.Frag} {mg : Str → Option Value} {base : Heap} {T : List NTab} {C : Addr}
abbrev s_handed : Stmt := top 28
abbrev n_handed : List Str := ["stream", "space", "parts", "part"]
theorem sc_handed : FnScope n_handed ["stream", "space"] (defScope s_handed) := ⟨rfl, rfl, rfl, by decide +kernel, rfl, by decide +kernel, by decide +kernel⟩
/-- no part of it is longer -/
def LeS (S : SpD) (N : Nat) : Prop := S.rooms.length ≤ N ∧ S.homes.length ≤ N ∧ S.lanes.length ≤ N
def sp_handed (K : PySem.W.Frag) (T : List NTab) : Sp := fun vs H Q _ => ∃ (st sc : Addr) (l : List Addr) (v : V) (S : SpD) (b N : Nat), vs = [.ref st, v] ∧ StrAt b st sc H ∧ Hid l st sc H ∧ Rp K (off l H) v (spD S) ∧ LeS S N ∧ N ≤ 300000 ∧ b + (6 * N + 3) < 2 ^ 48 ∧
  ∀ (D : Addr) (x1 x2 x3 : V) (e1 e2 e3 : PyData) (as : List Addr) (H' : Hp), Kp T [st, sc] H H' → H' D = some (.lst [x1, x2, x3]) → D ∉ l → Rp K (off l H') x1 e1 → Rp K (off l H') x2 e2 → Rp K (off l H') x3 e3 → PmLo (.list (S.rooms.map rmD)) e1 → PmLo (.list (S.homes.map .str)) e2 → PmLo (.list (S.lanes.map lnD)) e3 →
    Ow K H' (.ref D) 3 as → (∀ a ∈ as, H a = none) → StrAt (b + (6 * N + 3)) st sc H' → Q (.ref D) H'
theorem d_handed (B : Blt mg) (Gm : DefOk P w K mg base 2 "_law_mixed" (sp_mixed K T)) (Gl : DefOk P w K mg base 4 "_law_loose" (sp_loose K T 3)) (F : TopFn K mg "_law_handed" s_handed) : DefOk P w K mg base 5 "_law_handed" (sp_handed K T) := by
  refine F.ok sc_handed (fun _ _ _ _ _ _ us hl => match us, hl with | [_, _], _ => rfl) (fun vs H Q E h => ?_) (fun f cdv A outer s H vs Q E hr h => ?_)
  · obtain ⟨st, sc, l, v, S, b, N, rfl, _⟩ := h
    rfl
  · obtain ⟨st, sc, l, v, S, b, N, rfl, hS, hL, hx, ⟨z1, z2, z3⟩, hN, hb, k⟩ := h
    refine ⟨_, (pss_cons (ps_set (i := 2) sc_handed.nd rfl (Or.inl rfl) (pe_lst (pa_cons (LiI.pe_listItems rfl (pe_ix ix_seq (pv 1) pe_int (fun _ _ => rfl)) (by rfl) B.list (by decide +kernel)) (pa_cons (pe_ix ix_seq (pv 1) pe_int (fun _ _ => rfl)) (pa_cons (pe_ix ix_seq (pv 1) pe_int (fun _ _ => rfl)) pa_nil)))))
      (pss_one (ps_ret (pe_lc (own := [("part", 3)]) (g := gName 3) (tt := tYes) (by rfl) sc_handed.nd (pi_seq (pv 2)) (blkOk_by (N := n_handed) (sc := defScope s_handed) (by decide +kernel)) (fun _ _ _ _ _ => (pg_name (i := 3) sc_handed.nd rfl (Or.inl rfl))) (fun _ _ _ _ _ => pts_nil) (fun _ _ _ _ _ => (pe_d Gl hr (pa_cons (pv 0) (pa_cons (pe_d Gm hr (pa_cons (pv 0) (pa_cons (pv 3) pa_nil))) pa_nil)))))))), ?_⟩
    obtain ⟨a, r1, r2, r3, ls, rfl, h0, h1, h2, h3, h4⟩ := rp_spD hx
    have h0' : SqB false K H a [.ref r1, .ref r2, .ref r3] := Ke.off.tq h0
    refine ⟨_, rfl, rIx_of (i := 0) h0' rfl ⟨r1, _, rfl, (of_off h1).2, fun H1 p ts kp hp hts hpt hpl hpp => ⟨_, rfl, ?_⟩⟩⟩
    have k1 : Kp T [] H H1 := Kp.same kp
    have h0'' : SqB false K H1 a [.ref r1, .ref r2, .ref r3] := k1.ke0.tq h0'
    refine rIx_of (i := 1) h0'' rfl ⟨_, rfl, rIx_of (i := 2) h0'' rfl ⟨by show 3 ≤ sizeLine; decide, fun PL hPL => ?_⟩⟩
    have pl : p ∉ l := hL.new hp
    have tl : ∀ t ∈ ts, t ∉ l := fun t ht => hL.new (hts t ht)
    have hA1 : RpA K (off l H1) (ts.map V.ref) (S.rooms.map rmD) := by
      have q := rp_items (K := K) (H := off l H1) (rpD_rm S.rooms) (xs := rmK S.rooms) (ts := ts) (by
        clear hpt hpl hts
        revert tl
        generalize rmK S.rooms = kvs at hpp
        intro tl
        induction hpp with
        | nil => exact .nil
        | cons h t ih => exact .cons (off_some (tl _ (List.mem_cons_self ..)) h) (ih fun t ht => tl t (List.mem_cons_of_mem _ ht)))
      rw [List.map_map] at q
      exact q
    have k2 : Kp T [] H1 (upd H1 PL (.lst [.ref p, .ref r2, .ref r3])) := Kp.new hPL
    have hP : (upd H1 PL (.lst [.ref p, .ref r2, .ref r3])) PL = some (.lst [.ref p, .ref r2, .ref r3]) := upd_same
    generalize upd H1 PL (.lst [.ref p, .ref r2, .ref r3]) = H2 at k2 hP ⊢
    have k02 := k1.trans k2
    have ke02 : Ke (off l H) (off l H2) := (k02.mono (l' := l) (by simp)).ke
    have hPl : PL ∉ l := hL.new (k1.n PL hPL)
    have L2 := hL.kp k02
    have S2 := hS.kp k02 (by simp) (by simp)
    -- the three parts as data
    have parts : ∀ (j : Nat) (y : V), ([.ref p, .ref r2, .ref r3] : List V)[j]? = some y → ∃ q xs ds, y = .ref q ∧ ([.list (S.rooms.map rmD), .list (S.homes.map .str), .list (S.lanes.map lnD)] : List PyData)[j]? = some (.list ds) ∧ (off l H2) q = some (.lst xs) ∧ RpA K (off l H2) xs ds ∧ (∀ d ∈ ds, Flt d) ∧ ds.length ≤ N := by
      intro j y ey
      match j, ey with
      | 0, ey =>
        cases ey
        exact ⟨p, _, _, rfl, rfl, off_some pl (k2.lst (by simp) hpl), hA1.ke (k2.mono (l' := l) (by simp)).ke, flt_map flt_rm _, by rw [List.length_map]; exact z1⟩
      | 1, ey =>
        cases ey
        exact ⟨r2, _, _, rfl, rfl, ke02 _ _ h2 (fun _ z => by cases z), rpA_strs _, flt_map flt_str _, by rw [List.length_map]; exact z2⟩
      | 2, ey =>
        cases ey
        exact ⟨r3, _, _, rfl, rfl, ke02 _ _ h3 (fun _ z => by cases z), h4.ke ke02, flt_map flt_ln _, by rw [List.length_map]; exact z3⟩
      | j + 3, ey => simp at ey
    generalize hds : ([.list (S.rooms.map rmD), .list (S.homes.map .str), .list (S.lanes.map lnD)] : List PyData) = ds at parts
    obtain ⟨⟨_, e1⟩, ⟨_, e2⟩⟩ := S2.some
    refine ⟨_, rfl, PL, _, true, rfl, SqL.of hP, fun J Gj hsz W hG D hD => ?_⟩
    have nD1 : D ≠ st := none_ne e1 hD
    have nD2 : D ≠ sc := none_ne e2 hD
    have nDP : PL ≠ D := ne_of_none hP hD
    have nDl : D ∉ l := L2.new hD
    have nP1 : PL ≠ st := fun z => hPl (z ▸ hL.st)
    have nP2 : PL ≠ sc := fun z => hPl (z ▸ hL.sc)
    have ke1 : ∀ H', Kp T (D :: [st, sc]) H2 H' → Ke (off l H2) (off l (off [D] H')) := fun H' k' => Ke.offN (k'.mono (by simp [L2.st, L2.sc])) hD
    refine lc_acc W T [st, sc] hD (by simp [nD1, nD2]) hsz (fun i acc H' => StrAt (b + i * (2 * N + 1)) st sc H' ∧ ∃ es as, Paired PmLo (ds.take i) es ∧ RpA K (off l H') acc es ∧ OwA K H' acc 2 as ∧ ∀ a ∈ as, H2 a = none)
      ⟨by simpa using S2.off nD1 nD2, [], [], .nil, .nil, .nil, fun _ z => by cases z⟩ (fun H' k' => hG H' (SqL.of (k'.lst (by simp [nDP, nP1, nP2]) hP))) (fun i y acc H' H'' Q' Qn hi hl k' hDa R' y' hk hn' => ?_) fun H' acc k' R' hDa hl => ?_
    · obtain ⟨S', es, as, l1, l2, l3, l4⟩ := R'
      obtain ⟨rfl, ey⟩ := y'
      obtain ⟨q, xs, dd, rfl, ed, hq, hA, hF, hdN⟩ := parts i _ ey
      have i3 : i < 3 := hi
      have hxd := hA.length
      have hiN : i * (2 * N + 1) ≤ 2 * (2 * N + 1) := Nat.mul_le_mul_right _ (by omega)
      have S3 := S'.of_off
      have L3 : Hid (D :: l) st sc H'' := (L2.kp k').cons (by rw [hDa]; simp)
      have hq' := ke1 _ k' q _ hq (fun _ z => by cases z)
      have hq3 : SqL K (off [st, sc] H'') q xs := SqL.of (off_some (by
        intro hm
        simp at hm
        rcases hm with rfl | rfl
        · exact (of_off hq').1 L2.st
        · exact (of_off hq').1 L2.sc) (of_off (of_off hq').2).2)
      refine ⟨rfl, _, rfl, _, rfl, _, rfl, st, sc, q, b + i * (2 * N + 1), xs, rfl, S3, .inl hq3, by rw [hxd]; omega, by rw [hxd]; omega, fun p1 ys H3 hp1 perm k3 hp1' np1 np2 s3 => ?_⟩
      have hAq := hA.ke (ke1 _ k')
      rw [off_off] at hAq
      obtain ⟨fs, f1, f2⟩ := rpA_perm perm hAq
      have hF' : ∀ d ∈ fs, Flt d := fun d hd => hF d (f1.mem_iff.mp hd)
      have hfl : fs.length = dd.length := f1.length_eq
      have hp1l : p1 ∉ D :: l := L3.new hp1
      have L4 := L3.kp k3
      have f2' := f2.ke (L3.ke k3)
      have hc : cnt (.list fs) ≤ dd.length + 1 := by
        have := cntA_flt hF'
        simp only [cnt]
        omega
      have hlv : lv (.list fs) ≤ 2 := by
        have := lvA_flt hF'
        simp only [lv]
        omega
      refine ⟨st, sc, .ref p1, _, .list fs, D :: l, rfl, s3, L4, .lst (off_some hp1l hp1') f2', by simpa [noD] using noDA_flt hF', by simp [smal, smalA_flt hF']; omega, by omega, by rw [hxd]; omega, fun v d' bs H4 hlo k4 s4 r4 o4 n4 => hk v H4 (k3.trans k4) ?_⟩
      have D3 := k3.lst (by simp [nD1, nD2]) hDa
      have D4 := k4.lst (by simp [nD1, nD2]) D3
      have k34 := k3.trans k4
      have n4' : ∀ a ∈ bs, H'' a = none := fun a ha => k3.n a (n4 a ha)
      have k5 : Ke (off l (off [D] H'')) (off l (off [D] H4)) := by
        rw [off_off, off_off]
        exact L3.ke k34
      have nb : D ∉ bs := fun z => by
        have q := n4 D z
        rw [D3] at q
        cases q
      have nd : D ∉ as := fun z => l3.there D z (off_in (by simp))
      have dj : Dj as bs := fun a ha hb => l3.there a ha (by
        rw [off_ne (by simp; rintro rfl; exact nd ha)]
        exact n4' a hb)
      refine ⟨(s4.off nD1 nD2).mono (by rw [hxd, Nat.add_mul]; omega), es ++ [d'], as ++ bs, ?_, (l2.ke k5).snoc ?_, OwA.snoc ?_ ?_ dj, fun c hc => ?_⟩
      · rw [List.take_add_one, ed]
        exact l1.snoc ⟨dd, fs, rfl, f1, hlo⟩
      · rw [off_off]
        exact r4
      · refine ((l3.ke Ke.off).kp k34 (fun a ha => ?_) fun a ha hm => ?_).hide D4 nd
        · simp at ha
          rcases ha with rfl | rfl
          · exact .inl S3.some.1
          · exact .inl S3.some.2
        · have q := l4 a ha
          simp at hm
          rcases hm with rfl | rfl
          · rw [e1] at q; cases q
          · rw [e2] at q; cases q
      · exact (o4.deep hlv).hide D4 nb
      · rcases List.mem_append.mp hc with h | h
        · exact l4 c h
        · exact k'.n c (n4' c h)
    · obtain ⟨S', es, as, l1, l2, l3, l4⟩ := R'
      have S3 := S'.of_off
      have nd : D ∉ as := fun z => l3.there D z (off_in (by simp))
      have KD : Kp T [st, sc] H2 H' := k'.drop hD
      rw [off_off] at l2
      have K3 : Kp T [st, sc] H H' := (k02.mono (by simp)).trans KD
      have l2 := l2.ke (Ke.sub (l := l) fun x hx => List.mem_cons_of_mem _ hx)
      have l3 := l3.ke Ke.off
      subst hds
      cases l1 with
      | cons q1 l1 =>
      cases l1 with
      | cons q2 l1 =>
      cases l1 with
      | cons q3 l1 =>
      cases l1
      cases l2 with
      | cons t1 l2 =>
      cases l2 with
      | cons t2 l2 =>
      cases l2 with
      | cons t3 l2 =>
      cases l2
      refine k D _ _ _ _ _ _ (D :: as) H' K3 hDa nDl t1 t2 t3 q1 q2 q3 (.lst hDa (by simp) l3 nd) (fun a ha => ?_) (S3.mono (by show b + 3 * (2 * N + 1) ≤ _; omega))
      rcases List.mem_cons.mp ha with rfl | ha
      · exact k02.n _ hD
      · exact k02.n _ (l4 a ha)
end
end Sky
set_option Elab.async false
set_option linter.all false
set_option maxRecDepth 100000
set_option maxHeartbeats 4000000
/-! plain laws of spaces: sorted parts, loosened parts. -/
namespace Sky
open PySem PySem.Spec PyProof.Rows L2 LamX NdefX PySem.W
theorem perm_map_inv {α β : Type} {f : α → β} {ys xs : List β} (p : ys.Perm xs) : ∀ {l : List α}, xs = l.map f → ∃ l' : List α, l'.Perm l ∧ ys = l'.map f := by
  induction p with
  | nil => intro l e; cases l with | nil => exact ⟨[], .refl _, rfl⟩ | cons _ _ => cases e
  | cons x _ ih =>
    intro l e
    cases l with
    | nil => cases e
    | cons a l =>
      rw [List.map_cons] at e
      injection e with e1 e2
      obtain ⟨l', p1, p2⟩ := ih e2
      exact ⟨a :: l', p1.cons a, by rw [List.map_cons, ← p2, e1]⟩
  | swap x y r =>
    intro l e
    match l, e with
    | a :: b :: l, e =>
      rw [List.map_cons, List.map_cons] at e
      injection e with e1 e2
      injection e2 with e2 e3
      exact ⟨b :: a :: l, .swap .., by rw [List.map_cons, List.map_cons, ← e1, ← e2, ← e3]⟩
  | trans _ _ ih1 ih2 =>
    intro l e
    obtain ⟨l1, p1, e1⟩ := ih2 e
    obtain ⟨l2, p2, e2⟩ := ih1 e1
    exact ⟨l2, p2.trans p1, e2⟩
theorem apt_rm : Apt rmD := fun a b h => by
  simp [rmD, keyToks, keyToksAll] at h
  obtain ⟨h1, h2⟩ := h
  have e : a.1 = b.1 := by first | exact str_of_cps (by rw [h1]) | exact str_of_cps h1
  exact Prod.ext e h2
theorem apt_ln : Apt lnD := fun a b h => by
  simp [lnD, keyToks, keyToksAll] at h
  obtain ⟨h1, h2, h3⟩ := h
  have e : a.1 = b.1 := by first | exact str_of_cps (by rw [h1]) | exact str_of_cps h1
  have e2 : a.2.1 = b.2.1 := by first | exact str_of_cps (by rw [h2]) | exact str_of_cps h2
  exact Prod.ext e (Prod.ext e2 h3)
theorem rm_le {a b : Str × Int} (h : dataLe false rmD a b = true) : dataLe false PyData.str a.1 b.1 = true := by
  have h' : lexLt itemOrd (keyToks (rmD b)) (keyToks (rmD a)) = false := by simpa [dataLe, sortLe] using h
  show (!lexLt itemOrd (keyToks (.str b.1)) (keyToks (.str a.1))) = true
  cases q : lexLt itemOrd (keyToks (.str b.1)) (keyToks (.str a.1)) with
  | false => rfl
  | true =>
    exfalso
    simp only [rmD, keyToks, keyToksAll] at h' q
    by_cases e : (Sum.inr b.1.cps.toList : Int ⊕ List Nat) = Sum.inr a.1.cps.toList
    · rw [e] at q
      have := (listOrd itemOrd).irrefl [Sum.inr a.1.cps.toList]
      have this : lexLt itemOrd [Sum.inr a.1.cps.toList] [Sum.inr a.1.cps.toList] = false := this
      rw [this] at q
      cases q
    · have e1 := lex_pre [Sum.inl 1] (Sum.inr b.1.cps.toList :: (Sum.inl 1 :: ([Sum.inl b.2] ++ [Sum.inl 0]))) (Sum.inr a.1.cps.toList :: (Sum.inl 1 :: ([Sum.inl a.2] ++ [Sum.inl 0])))
      have e2 := lex_atom e (Sum.inl 1 :: ([Sum.inl b.2] ++ [Sum.inl 0])) (Sum.inl 1 :: ([Sum.inl a.2] ++ [Sum.inl 0]))
      rw [e2, q] at e1
      simp only [List.cons_append, List.nil_append] at e1 h'
      rw [e1] at h'
      cases h'
theorem srt_names (rooms : List (Str × Int)) : (srtBy rmD rooms).map (·.1) = srtBy PyData.str (rooms.map (·.1)) := by
  refine srt_uniq apt_str (((srtBy_perm rmD rooms).map _).trans (srtBy_perm _ _).symm) ?_ (srtBy_sorted _ _)
  exact List.pairwise_map.mpr ((srtBy_sorted rmD rooms).imp fun h => rm_le h)
theorem rget_mem : ∀ {rooms : List (Str × Int)} {p : Str × Int}, (rooms.map (·.1)).Nodup → p ∈ rooms → rget rooms p.1 = some p.2
  | q :: r, p, nd, h => by
    rw [List.map_cons, List.nodup_cons] at nd
    unfold rget
    rw [List.find?_cons]
    rcases List.mem_cons.mp h with rfl | h
    · rw [decide_eq_true rfl]
      rfl
    · have e : q.1 ≠ p.1 := fun z => nd.1 (z ▸ List.mem_map.mpr ⟨p, h, rfl⟩)
      rw [decide_eq_false e]
      exact rget_mem nd.2 h
theorem due_srt {S : SpD} (nd : (S.rooms.map (·.1)).Nodup) : dueS S = srtS S.rooms S.homes S.lanes := by
  have e : (srtBy PyData.str (S.rooms.map (·.1))).map (fun n => (n, (rget S.rooms n).getD 0)) = srtBy rmD S.rooms := by
    rw [← srt_names, List.map_map]
    have q : ∀ p ∈ srtBy rmD S.rooms, ((fun n => (n, (rget S.rooms n).getD 0)) ∘ fun x : Str × Int => x.1) p = p := fun p hp => by
      show (p.1, (rget S.rooms p.1).getD 0) = p
      rw [rget_mem nd ((srtBy_perm rmD S.rooms).mem_iff.mp hp)]
      rfl
    rw [List.map_congr_left q, List.map_id']
  unfold dueS srtS
  rw [e]
theorem srtS_perm {r r' : List (Str × Int)} {h h' : List Str} {n n' : List (Str × Str × Int)} (p1 : r'.Perm r) (p2 : h'.Perm h) (p3 : n'.Perm n) : srtS r' h' n' = srtS r h n := by
  unfold srtS
  rw [srtBy_congr apt_rm p1, srtBy_congr apt_str p2, srtBy_congr apt_ln p3]
theorem okSp_perm {r r' : List (Str × Int)} {h h' : List Str} {n n' : List (Str × Str × Int)} (ok : OkSp r h n) (p1 : r'.Perm r) (p2 : h'.Perm h) (p3 : n'.Perm n) : OkSp r' h' n' := by
  have m1 : ∀ z, z ∈ r'.map (·.1) ↔ z ∈ r.map (·.1) := fun z => (p1.map _).mem_iff
  refine ⟨fun p hp => ok.nm p (p1.mem_iff.mp hp), (p1.map _).nodup_iff.mpr ok.nd, fun z hz => ?_, p2.nodup_iff.mpr ok.hd, fun p hp => ?_, (p3.map _).nodup_iff.mpr ok.ld, by rw [p1.length_eq]; exact ok.rz, by rw [p2.length_eq]; exact ok.hz, by rw [p3.length_eq]; exact ok.lz⟩
  · have q := ok.hm z (p2.mem_iff.mp hz)
    exact ⟨q.1, fun e => q.2 ((m1 z).mp e)⟩
  · have q := ok.ln p (p3.mem_iff.mp hp)
    exact ⟨(m1 _).mpr q.1, q.2.1.imp (m1 _).mpr p2.mem_iff.mpr, q.2.2⟩
/-! ### loosened -/
theorem lo_scl {d e : PyData} (h : Lo d e) (s : lvS d = true) : e = d := by
  cases h with
  | scl _ => rfl
  | _ => cases s
theorem loA_scl : ∀ {ds es : List PyData}, LoA ds es → (∀ d ∈ ds, lvS d = true) → es = ds
  | _, _, .nil, _ => rfl
  | _, _, .cons h t, s => by rw [lo_scl h (s _ (List.mem_cons_self ..)), loA_scl t fun d hd => s d (List.mem_cons_of_mem _ hd)]
theorem lo_flat {α : Type} {K : PySem.W.Frag} {H : Hp} {f : α → List PyData} (hf : ∀ a, ∀ d ∈ f a, lvS d = true) : ∀ {l : List α} {zs : List PyData} {xs : List V}, LoA (l.map fun a => .tuple (f a)) zs → RpA K H xs zs → Paired (RpS K H) xs (l.map f)
  | [], _, _, h, r => by cases h; cases r; exact .nil
  | a :: l, _, _, h, r => by
    rw [List.map_cons] at h
    cases h with
    | cons h t =>
      cases r with
      | cons r s =>
        rw [List.map_cons]
        refine .cons ?_ (lo_flat hf t s)
        cases h with
        | scl q => cases q
        | tl q => rw [loA_scl q (hf a)] at r; exact ⟨_, r, .inl rfl⟩
        | tt q => rw [loA_scl q (hf a)] at r; exact ⟨_, r, .inr rfl⟩
theorem rp_lo {K : PySem.W.Frag} {H : Hp} {x : V} {ds : List PyData} {e : PyData} (h : Lo (.list ds) e) (r : Rp K H x e) : ∃ a xs t zs, x = .ref a ∧ SqB t K H a xs ∧ LoA ds zs ∧ RpA K H xs zs := by
  cases h with
  | scl q => cases q
  | ll q =>
    cases r with
    | lst h1 h2 => exact ⟨_, _, true, _, rfl, SqL.of h1, q, h2⟩
  | lt q =>
    cases r with
    | tup h1 h2 => exact ⟨_, _, false, _, rfl, h1, q, h2⟩
theorem pm_flat {α : Type} {K : PySem.W.Frag} {H : Hp} {f : α → List PyData} (hf : ∀ a, ∀ d ∈ f a, lvS d = true) {l : List α} {x : V} {e : PyData} (h : PmLo (.list (l.map fun a => .tuple (f a))) e) (r : Rp K H x e) : ∃ (a : Addr) (xs : List V) (t : Bool) (l' : List α), x = .ref a ∧ SqB t K H a xs ∧ Paired (RpS K H) xs (l'.map f) ∧ l'.Perm l := by
  obtain ⟨xs, ys, e1, e2, e3⟩ := h
  cases e1
  obtain ⟨l', p1, rfl⟩ := perm_map_inv e2 rfl
  obtain ⟨a, xs, t, zs, rfl, q1, q2, q3⟩ := rp_lo e3 r
  exact ⟨a, xs, t, l', rfl, q1, lo_flat hf q2 q3, p1⟩
theorem pm_strs {K : PySem.W.Frag} {H : Hp} {l : List Str} {x : V} {e : PyData} (h : PmLo (.list (l.map PyData.str)) e) (r : Rp K H x e) : ∃ (a : Addr) (xs : List V) (t : Bool) (l' : List Str), x = .ref a ∧ SqB t K H a xs ∧ xs = l'.map V.str ∧ l'.Perm l := by
  obtain ⟨xs, ys, e1, e2, e3⟩ := h
  cases e1
  obtain ⟨l', p1, rfl⟩ := perm_map_inv e2 rfl
  obtain ⟨a, xs, t, zs, rfl, q1, q2, q3⟩ := rp_lo e3 r
  have e := loA_scl q2 fun d hd => by
    obtain ⟨z, -, rfl⟩ := List.mem_map.mp hd
    rfl
  rw [e] at q3
  exact ⟨a, xs, t, l', rfl, q1, rpA_str_inv q3, p1⟩
theorem scl_rmA (p : Str × Int) : ∀ d ∈ rmA p, lvS d = true := fun d hd => by
  simp [rmA] at hd
  rcases hd with rfl | rfl <;> rfl
theorem scl_lnA (p : Str × Str × Int) : ∀ d ∈ lnA p, lvS d = true := fun d hd => by
  simp [lnA] at hd
  rcases hd with rfl | rfl | rfl <;> rfl
end Sky
set_option Elab.async false
set_option linter.all false
set_option maxRecDepth 100000
set_option maxHeartbeats 4000000
/-! bounds of the texts of spaces, as they are handed and as they are. -/
namespace Sky
open PySem PySem.Spec PyProof.Rows L2 LamX NdefX PySem.W
mutual
theorem lo_tw : ∀ {d e : PyData}, Lo d e → sml e = sml d ∧ tw e ≤ tw d + cnt d ∧ e.depth = d.depth
  | _, _, .scl _ => ⟨rfl, Nat.le_add_right _ _, rfl⟩
  | _, _, .ll h => by
    obtain ⟨a, b, c⟩ := loA_tw h
    simp only [sml, tw, cnt, PyData.depth]
    exact ⟨a, by omega, by rw [c]⟩
  | _, _, .lt h => by
    obtain ⟨a, b, c⟩ := loA_tw h
    simp only [sml, tw, cnt, PyData.depth]
    exact ⟨a, by omega, by rw [c]⟩
  | _, _, .tl h => by
    obtain ⟨a, b, c⟩ := loA_tw h
    simp only [sml, tw, cnt, PyData.depth]
    exact ⟨a, by omega, by rw [c]⟩
  | _, _, .tt h => by
    obtain ⟨a, b, c⟩ := loA_tw h
    simp only [sml, tw, cnt, PyData.depth]
    exact ⟨a, by omega, by rw [c]⟩
theorem loA_tw : ∀ {d e : List PyData}, LoA d e → smlA e = smlA d ∧ twA e ≤ twA d + cntA d ∧ PyData.depthAll e = PyData.depthAll d
  | _, _, .nil => ⟨rfl, Nat.le_add_right _ _, rfl⟩
  | _, _, .cons h t => by
    obtain ⟨a, b, c⟩ := lo_tw h
    obtain ⟨a', b', c'⟩ := loA_tw t
    simp only [smlA, twA, cntA, PyData.depthAll]
    exact ⟨by rw [a, a'], by omega, by rw [c, c']⟩
end
/-- a thing of a short text -/
def Sht (d : PyData) : Prop := sml d = true ∧ tw d ≤ 200 ∧ cnt d ≤ 1 ∧ d.depth ≤ 1
theorem sht_all : ∀ {ds : List PyData}, (∀ d ∈ ds, Sht d) → smlA ds = true ∧ twA ds ≤ 202 * ds.length ∧ cntA ds ≤ ds.length ∧ PyData.depthAll ds ≤ 1
  | [], _ => by simp [smlA, twA, cntA, PyData.depthAll]
  | d :: ds, h => by
    obtain ⟨a, b, c, e⟩ := sht_all fun x hx => h x (List.mem_cons_of_mem _ hx)
    obtain ⟨a', b', c', e'⟩ := h d (List.mem_cons_self ..)
    simp only [smlA, twA, cntA, PyData.depthAll, List.length_cons]
    exact ⟨by rw [a, a']; rfl, by omega, by omega, by omega⟩
theorem pmlo_sht {ds : List PyData} {e : PyData} (h : PmLo (.list ds) e) (s : ∀ d ∈ ds, Sht d) : sml e = true ∧ tw e ≤ 203 * ds.length + 4 ∧ e.depth ≤ 2 := by
  obtain ⟨xs, ys, e1, p, l⟩ := h
  cases e1
  obtain ⟨a, b, c⟩ := lo_tw l
  obtain ⟨a', b', c', d'⟩ := sht_all (ds := ys) fun d hd => s d (p.mem_iff.mp hd)
  have hl := p.length_eq
  simp only [sml, tw, cnt, PyData.depth] at a b c
  rw [hl] at b' c'
  exact ⟨by rw [a, a'], by omega, by omega⟩
theorem nm_sml {z : Str} (h : nmS z = true) : sml (.str z) = true ∧ z.length ≤ 8 := by
  unfold nmS at h
  simp only [Bool.and_eq_true, decide_eq_true_eq, List.all_eq_true] at h
  have hl : ∀ c ∈ letters.cps.toList, c < 16 ^ 8 := by decide +kernel
  refine ⟨?_, by omega⟩
  simp only [sml, List.all_eq_true, decide_eq_true_eq]
  exact fun c hc => hl c (h.2.2 c hc)
theorem int_sml {i : Int} (h1 : 0 < i) (h2 : i ≤ 1000000) : sml (.int i) = true := by
  simp only [sml, decide_eq_true_eq]
  omega
/-- its numbers are small -/
structure SmS (S : SpD) : Prop where
  r : ∀ p ∈ S.rooms, p.2 ≤ 1000000
  l : ∀ p ∈ S.lanes, p.2.2 ≤ 1000000
theorem lv_told (S : SpD) : lv (toldD S) ≤ 4 := by
  have h1 := lvA_flt (flt_map flt_str S.homes)
  have h2 := lvA_flt (flt_map flt_ln S.lanes)
  have h3 : ∀ r : List (Str × Int), lvD (r.map fun p => (PyData.str p.1, PyData.int p.2)) = 0 := fun r => by
    induction r with
    | nil => simp [lvD]
    | cons p r ih => simp [lvD, lv, ih]
  simp only [toldD, dictD, lv, lvA, h3]
  omega
theorem due_sz {S : SpD} (ok : OkSp S.rooms S.homes S.lanes) : SzS (dueS S) := by
  refine ⟨?_, ?_, ?_⟩
  · have : ((dueS S).rooms.map (·.1)).length ≤ 1000000 := by rw [due_names, (srtBy_perm _ _).length_eq, List.length_map]; exact ok.rz
    rwa [List.length_map] at this
  · show (srtBy PyData.str S.homes).length ≤ _
    rw [(srtBy_perm _ _).length_eq]; exact ok.hz
  · show (srtBy lnD S.lanes).length ≤ _
    rw [(srtBy_perm _ _).length_eq]; exact ok.lz
theorem due_tx {S : SpD} (ok : OkSp S.rooms S.homes S.lanes) : TxS (dueS S) := by
  rw [due_srt ok.nd]
  exact ok.tx
theorem dEq_refl {rooms : List (Str × Int)} (nd : (rooms.map (·.1)).Nodup) : dEq rooms rooms = true := by
  unfold dEq
  simp only [beq_self_eq_true, Bool.true_and, List.all_eq_true, decide_eq_true_eq]
  exact fun p hp => rget_mem nd hp
theorem spEqB_refl {S : SpD} (nd : (S.rooms.map (·.1)).Nodup) (tx : TxS S) : spEqB S S = true := by
  have h1 := shaped_strs S.homes tx.h
  have h2 := shaped_lanes S.lanes tx.l
  unfold SeqAt.shaped at h1 h2
  simp only [Bool.and_eq_true] at h1 h2
  unfold spEqB
  rw [dEq_refl nd, SeqAt.eqv_refl _ h1.1, SeqAt.eqv_refl _ h2.1]
  rfl
/-- two told spaces in a list -/
def two2 (S : SpD) : PyData := .list [toldD S, toldD S]
theorem lv_two2 (S : SpD) : lv (two2 S) < 6 := by
  have := lv_told S
  simp only [two2, lv, lvA]
  omega
section
variable {S : SpD}
theorem nm_room (ok : OkSp S.rooms S.homes S.lanes) {z : Str} (h : z ∈ S.rooms.map (·.1)) : nmS z = true := by
  obtain ⟨p, hp, rfl⟩ := List.mem_map.mp h
  exact (ok.nm p hp).1
theorem nm_end (ok : OkSp S.rooms S.homes S.lanes) {z : Str} (h : z ∈ S.rooms.map (·.1) ∨ z ∈ S.homes) : nmS z = true := h.elim (nm_room ok) fun h => (ok.hm z h).1
theorem sht_rm (ok : OkSp S.rooms S.homes S.lanes) (sm : SmS S) : ∀ d ∈ S.rooms.map rmD, Sht d := fun d hd => by
  obtain ⟨p, hp, rfl⟩ := List.mem_map.mp hd
  obtain ⟨a, b⟩ := nm_sml (ok.nm p hp).1
  have c := int_sml (ok.nm p hp).2 (sm.r p hp)
  refine ⟨by simp [rmD, sml, smlA, a, c] at a c ⊢; exact ⟨a, c⟩, by simp only [rmD, tw, twA]; omega, by simp [rmD, cnt, cntA], by simp [rmD, PyData.depth, PyData.depthAll]⟩
theorem sht_hm (ok : OkSp S.rooms S.homes S.lanes) : ∀ d ∈ S.homes.map PyData.str, Sht d := fun d hd => by
  obtain ⟨z, hz, rfl⟩ := List.mem_map.mp hd
  obtain ⟨a, b⟩ := nm_sml (ok.hm z hz).1
  exact ⟨a, by simp only [tw]; omega, by simp [cnt], by simp [PyData.depth]⟩
theorem sht_ln (ok : OkSp S.rooms S.homes S.lanes) (sm : SmS S) : ∀ d ∈ S.lanes.map lnD, Sht d := fun d hd => by
  obtain ⟨p, hp, rfl⟩ := List.mem_map.mp hd
  obtain ⟨h1, h2, h3, h4⟩ := ok.ln p hp
  obtain ⟨a, b⟩ := nm_sml (nm_room ok h1)
  obtain ⟨a', b'⟩ := nm_sml (nm_end ok h2)
  have c := int_sml h4 (sm.l p hp)
  refine ⟨by simp only [lnD, sml, smlA] at a a' c ⊢; simp only [a, a', c]; rfl, by simp only [lnD, tw, twA]; omega, by simp [lnD, cnt, cntA], by simp [lnD, PyData.depth, PyData.depthAll]⟩
/-- the text of what is handed -/
theorem handed_sht (ok : OkSp S.rooms S.homes S.lanes) (sm : SmS S) {N : Nat} (hN : LeS S N) (hN2 : N ≤ 2000) {e1 e2 e3 : PyData} (p1 : PmLo (.list (S.rooms.map rmD)) e1) (p2 : PmLo (.list (S.homes.map .str)) e2) (p3 : PmLo (.list (S.lanes.map lnD)) e3) :
    (PyData.list [e1, e2, e3]).showable = true ∧ (PyData.list [e1, e2, e3]).shown.length ≤ sizeLine ∧ (PyData.list [e1, e2, e3]).depth ≤ 60 := by
  obtain ⟨z1, z2, z3⟩ := hN
  obtain ⟨a1, b1, c1⟩ := pmlo_sht p1 (sht_rm ok sm)
  obtain ⟨a2, b2, c2⟩ := pmlo_sht p2 (sht_hm ok)
  obtain ⟨a3, b3, c3⟩ := pmlo_sht p3 (sht_ln ok sm)
  rw [List.length_map] at b1 b2 b3
  have hs : sml (.list [e1, e2, e3]) = true := by simp only [sml, smlA, a1, a2, a3]; rfl
  refine ⟨sml_showable _ hs, Nat.le_trans (shown_le _ hs) ?_, ?_⟩
  · simp only [tw, twA]
    show _ ≤ 2 ^ 24
    omega
  · simp only [PyData.depth, PyData.depthAll]
    omega
theorem dict_sht : ∀ {rooms : List (Str × Int)}, (∀ p ∈ rooms, nmS p.1 = true ∧ 0 < p.2 ∧ p.2 ≤ 1000000) → smlD (rooms.map fun p => (.str p.1, .int p.2)) = true ∧ twD (rooms.map fun p => (.str p.1, .int p.2)) ≤ 200 * rooms.length ∧ PyData.depthKv (rooms.map fun p => (.str p.1, .int p.2)) = 0
  | [], _ => by simp [smlD, twD, PyData.depthKv]
  | p :: r, h => by
    obtain ⟨a, b, c⟩ := dict_sht (rooms := r) fun q hq => h q (List.mem_cons_of_mem _ hq)
    obtain ⟨h1, h2, h3⟩ := h p (List.mem_cons_self ..)
    obtain ⟨a', b'⟩ := nm_sml h1
    have c' := int_sml h2 h3
    simp only [List.map_cons, smlD, twD, PyData.depthKv, List.length_cons, tw, PyData.depth]
    exact ⟨by rw [a, a', c']; rfl, by omega, by rw [c]; rfl⟩
/-- the text of a space -/
theorem space_sht (ok : OkSp S.rooms S.homes S.lanes) (sm : SmS S) {N : Nat} (hN : LeS S N) (hN2 : N ≤ 2000) : (spD S).showable = true ∧ (spD S).shown.length ≤ sizeLine ∧ (spD S).depth ≤ 60 := by
  obtain ⟨z1, z2, z3⟩ := hN
  obtain ⟨a1, b1, c1⟩ := dict_sht (rooms := S.rooms) fun p hp => ⟨(ok.nm p hp).1, (ok.nm p hp).2, sm.r p hp⟩
  obtain ⟨a2, b2, _, c2⟩ := sht_all (sht_hm ok)
  obtain ⟨a3, b3, _, c3⟩ := sht_all (sht_ln ok sm)
  rw [List.length_map] at b2 b3
  have hs : sml (spD S) = true := by simp only [spD, dictD, sml, smlA, a1, a2, a3]; rfl
  refine ⟨sml_showable _ hs, Nat.le_trans (shown_le _ hs) ?_, ?_⟩
  · simp only [spD, dictD, tw, twA]
    show _ ≤ 2 ^ 24
    omega
  · simp only [spD, dictD, PyData.depth, PyData.depthAll]
    omega
end
section
variable {K : PySem.W.Frag} {C : Addr} {H : Hp} {x y : Addr} {S S2 : SpD} {Q : VK}
theorem Sp3.ins (h : Sp3 K C H x S) : ∃ dx fs, H x = some (.ins C dx fs) := by
  obtain ⟨r, ⟨dx, fs, h1, _⟩, _⟩ := h.r
  exact ⟨dx, fs, h1⟩
theorem rOwnEq_of (h1 : Sp3 K C H x S) (t1 : TxS S) (h2 : Sp3 K C H y S2) (t2 : TxS S2) (q : Q (.bl (spEqB S S2)) H) : rOwnEq K C (sp_eq K C) (.ref x) (.ref y) H Q := by
  obtain ⟨dx, fs, e⟩ := h1.ins
  obtain ⟨dy, gs, e2⟩ := h2.ins
  exact ⟨x, dx, fs, rfl, e, .own e2, x, .ref y, S, rfl, h1, t1, .inr ⟨y, S2, rfl, h2, t2, _, rfl, q⟩⟩
theorem rOwnNe_of (h1 : Sp3 K C H x S) (t1 : TxS S) (h2 : Sp3 K C H y S2) (t2 : TxS S2) (q : Q (.bl (!spEqB S S2)) H) : rOwnNe K C (sp_eq K C) (.ref x) (.ref y) H Q := by
  obtain ⟨dx, fs, e⟩ := h1.ins
  obtain ⟨dy, gs, e2⟩ := h2.ins
  exact ⟨x, dx, fs, rfl, e, .own e2, x, .ref y, S, rfl, h1, t1, .inr ⟨y, S2, rfl, h2, t2, _, rfl, q⟩⟩
theorem rOwnEq_self (h1 : Sp3 K C H x S) (t1 : TxS S) (nd : (S.rooms.map (·.1)).Nodup) (h2 : Sp3 K C H y S) (q : Q (.bl true) H) : rOwnEq K C (sp_eq K C) (.ref x) (.ref y) H Q := rOwnEq_of h1 t1 h2 t1 (by rw [spEqB_refl nd t1]; exact q)
theorem rOwnNe_self (h1 : Sp3 K C H x S) (t1 : TxS S) (nd : (S.rooms.map (·.1)).Nodup) (h2 : Sp3 K C H y S) (q : Q (.bl false) H) : rOwnNe K C (sp_eq K C) (.ref x) (.ref y) H Q := rOwnNe_of h1 t1 h2 t1 (by rw [spEqB_refl nd t1]; exact q)
theorem rOwnEq_odd {z : V} {g : Tg} (h1 : Sp3 K C H x S) (t1 : TxS S) (h2 : TgOf K H z g) (q : Q (.bl false) H) : rOwnEq K C (sp_eq K C) (.ref x) z H Q := by
  obtain ⟨dx, fs, e⟩ := h1.ins
  exact ⟨x, dx, fs, rfl, e, .dat h2, x, z, S, rfl, h1, t1, .inl ⟨g, h2, _, rfl, q⟩⟩
theorem rOwnNe_odd {z : V} {g : Tg} (h1 : Sp3 K C H x S) (t1 : TxS S) (h2 : TgOf K H z g) (q : Q (.bl true) H) : rOwnNe K C (sp_eq K C) (.ref x) z H Q := by
  obtain ⟨dx, fs, e⟩ := h1.ins
  exact ⟨x, dx, fs, rfl, e, .dat h2, x, z, S, rfl, h1, t1, .inl ⟨g, h2, _, rfl, q⟩⟩
theorem Sp3.ke {H' : Hp} (h : Sp3 K C H x S) (k : Ke H H') : Sp3 K C H' x S := ⟨h.r.ke k, h.h.ke k, h.l.ke k⟩
theorem Rp.ref_list {v : V} {ds : List PyData} (h : Rp K H v (.list ds)) : ∃ a xs, v = .ref a ∧ H a = some (.lst xs) ∧ RpA K H xs ds := by
  cases h with
  | lst h1 h2 => exact ⟨_, _, rfl, h1, h2⟩
end
end Sky
set_option Elab.async false
set_option linter.all false
set_option maxRecDepth 100000
set_option maxHeartbeats 4000000
namespace Sky
open PySem PySem.Spec PyProof.Rows L2 LamX NdefX
section
variable {P : Program} {w : World} {K : PySem.W.Frag} {mg : Str → Option Value} {base : Heap} {T : List NTab} {C : Addr}
abbrev s_made_right : Stmt := top 32
abbrev n_made_right : List Str := ["stream", "space", "handed", "due", "was", "made", "other", "found", "odd"]
theorem sc_made_right : FnScope n_made_right ["stream", "space"] (defScope s_made_right) := ⟨rfl, rfl, rfl, by decide +kernel, rfl, by decide +kernel, by decide +kernel⟩
def sp_made_right (K : PySem.W.Frag) (T : List NTab) : Sp := fun vs H Q _ => ∃ (st sc : Addr) (v : V) (S : SpD) (b N : Nat), vs = [.ref st, v] ∧ TabsN T H ∧ StrAt b st sc H ∧ Rp K (off [st, sc] H) v (spD S) ∧ OkSp S.rooms S.homes S.lanes ∧ SmS S ∧ LeS S N ∧ N ≤ 2000 ∧ b + (6 * N + 3) < 2 ^ 48 ∧
  ∀ H', Kp T [st, sc] H H' → StrAt (b + (6 * N + 3)) st sc H' → Q (.bl true) H'
theorem d_made_right (B : Blt mg) (cs : ClsS K mg C) (ic : IsCls K C) (hne : PySem.W.findIn K (.ref C) "__ne__" = some (some (.builtin "object.__ne__"))) (hob : PySem.W.mroIn K C (.type "object") = some true)
    (Gh : DefOk P w K mg base 5 "_law_handed" (sp_handed K T)) (Gd : DefOk P w K mg base 1 "_law_due" (sp_due K T)) (Gt : DefOk P w K mg base 2 "_law_told" (sp_told K T C)) (Gs : DefOk P w K mg base 6 "_law_same" (sp_same K T 6)) (Gp : DefOk P w K mg base 6 "_law_spoilt" (sp_spoilt K T 6)) (Gc : DefOk P w K mg base 4 "_law_copied" (sp_copied K T 4))
    (Mk : MkOk P w K mg base 6 "Space" C (sp_init K T C)) (Mw : MkKw P w K mg base 6 "Space" C ["lanes", "homes", "rooms"] rev3 (sp_init K T C)) (Me : MetOk P w K mg base 1 C "__eq__" (sp_eq K C)) (F : TopFn K mg "_law_made_right" s_made_right) : DefOkG P w K mg base 9 "_law_made_right" (sp_made_right K T) := by
  refine F.okG sc_made_right (fun _ _ _ _ _ _ us hl => match us, hl with | [_, _], _ => rfl) (fun vs H Q E h => ?_) (fun f cdv A outer s H vs Q E hG hr h => ?_)
  · obtain ⟨st, sc, v, S, b, N, rfl, _⟩ := h
    rfl
  · obtain ⟨st, sc, v, S, b, N, rfl, hT, hS, hx, ok, sm, hN, hN2, hb, k⟩ := h
    refine ⟨_, (pss_cons (ps_par (i := 2) (j := 3) rfl sc_made_right.nd rfl rfl (by decide) rfl rfl (pa_cons (pe_d Gh hr (pa_cons (pv 0) (pa_cons (pv 1) pa_nil))) (pa_cons (pe_d Gd hr (pa_cons (pv 1) pa_nil)) pa_nil)) rfl)
      (pss_cons (ps_par (i := 4) (j := 5) rfl sc_made_right.nd rfl rfl (by decide) rfl rfl (pa_cons (e_repr B hG hr.units (pa_cons (pv 2) pa_nil)) (pa_cons (pe_mk Mk hr (pa_cons (pe_ix ix_list (pv 2) pe_int (fun _ _ => rfl)) (pa_cons (pe_ix ix_list (pv 2) pe_int (fun _ _ => rfl)) (pa_cons (pe_ix ix_list (pv 2) pe_int (fun _ _ => rfl)) pa_nil)))) pa_nil)) rfl)
      (pss_cons (ps_set (i := 6) sc_made_right.nd rfl (Or.inl rfl) (pe_mkK Mw hr (pk_cons (pe_d Gc hr (pa_cons (pe_ix ix_seq (pv 1) pe_int (fun _ _ => rfl)) pa_nil)) (pk_cons (pe_d Gc hr (pa_cons (pe_ix ix_seq (pv 1) pe_int (fun _ _ => rfl)) pa_nil)) (pk_cons (LiI.pe_listItems rfl (pe_ix ix_seq (pv 1) pe_int (fun _ _ => rfl)) (by rfl) B.list (by decide +kernel)) pk_nil)))))
      (pss_cons (ps_set (i := 7) sc_made_right.nd rfl (Or.inl rfl) (pe_lst (pa_cons (pe_d Gt hr (pa_cons (pv 5) pa_nil)) (pa_cons (pe_d Gt hr (pa_cons (pv 6) pa_nil)) pa_nil))))
      (pss_cons (ps_if (pw_or (pt_cmpR op_ne (e_repr B hG hr.units (pa_cons (pv 2) pa_nil)) (pv 4) (nomark _)) (pw_or1 (pt_not (pt_val (pe_d Gs hr (pa_cons (pv 7) (pa_cons (pe_lst (pa_cons (pv 3) (pa_cons (pv 3) pa_nil))) pa_nil))))))).pt (pss_one (ps_ret pe_bl)) pss_nil)
      (pss_cons (ps_expr (pe_d Gp hr (pa_cons (pv 7) pa_nil)))
      (pss_cons (ps_expr (pe_d Gp hr (pa_cons (pv 2) pa_nil)))
      (pss_cons (ps_if (pt_not (pt_val (pe_d Gs hr (pa_cons (pe_lst (pa_cons (pe_d Gt hr (pa_cons (pv 5) pa_nil)) (pa_cons (pe_d Gt hr (pa_cons (pv 6) pa_nil)) pa_nil))) (pa_cons (pe_lst (pa_cons (pv 3) (pa_cons (pv 3) pa_nil))) pa_nil))))) (pss_one (ps_ret pe_bl)) pss_nil)
      (pss_cons (ps_if (pt_not (pt_val (pe_d Gs hr (pa_cons (pe_lst (pa_cons (pe_cmpR (op_ownEq Me hr) (pv 5) (pv 6) (nomark _)) (pa_cons (pe_cmpR (op_ownNe Me hne hob hr) (pv 5) (pv 6) (nomark _)) (pa_cons (pe_cmpR (op_ownEq Me hr) (pv 6) (pv 5) (nomark _)) (pa_cons (pe_cmpR (op_ownEq Me hr) (pv 5) (pv 5) (nomark _)) pa_nil))))) (pa_cons (pe_lst (pa_cons pe_bl (pa_cons pe_bl (pa_cons pe_bl (pa_cons pe_bl pa_nil))))) pa_nil))))) (pss_one (ps_ret pe_bl)) pss_nil)
      (pss_cons (ps_for PassesOwn.never rfl (pi_seq (pe_tup (pa_cons pe_non (pa_cons pe_int (pa_cons pe_str (pa_cons (pe_lst pa_nil) (pa_cons pe_dnewK (pa_cons (pv 2) (pa_cons (pe_d Gd hr (pa_cons (pv 1) pa_nil)) (pa_cons (e_tuple B (pa_cons (pe_d Gd hr (pa_cons (pv 1) pa_nil)) pa_nil)) pa_nil)))))))))) (pg_name (i := 8) sc_made_right.nd rfl (Or.inl rfl)) (pss_one (ps_if (pt_not (pt_val (pe_d Gs hr (pa_cons (pe_lst (pa_cons (pe_cmpR (op_ownEq Me hr) (pv 5) (pv 8) (nomark _)) (pa_cons (pe_cmpR (op_ownNe Me hne hob hr) (pv 5) (pv 8) (nomark _)) pa_nil))) (pa_cons (pe_lst (pa_cons pe_bl (pa_cons pe_bl pa_nil))) pa_nil))))) (pss_one (ps_ret pe_bl)) pss_nil)))
      (pss_one (ps_ret pe_bl)))))))))))), ?_⟩
    obtain ⟨⟨_, t1⟩, ⟨_, t2⟩⟩ := hS.some
    have hL : Hid [st, sc] st sc H := ⟨by simp, by simp, fun a ha => by
      rcases List.mem_cons.mp ha with rfl | ha
      · rw [t1]; simp
      · cases List.mem_singleton.mp ha
        rw [t2]; simp⟩
    -- handed, due
    refine ⟨_, rfl, _, rfl, st, sc, [st, sc], v, S, b, N, rfl, hS, hL, hx, hN, by omega, hb, fun D x1 x2 x3 e1 e2 e3 as H1 k1 hD hDl r1 r2 r3 p1 p2 p3 ow hnew s1 => ?_⟩
    obtain ⟨l, hl⟩ : ∃ l, l = [st, sc] ++ as := ⟨_, rfl⟩
    have hx1 : Rp K (off l H1) v (spD S) := hl ▸ hx.ke (ke_newF k1 hnew)
    have ld1 : LD l H1 := hl ▸ LD.app (fun a ha => by
      rcases List.mem_cons.mp ha with rfl | ha
      · exact .inl s1.some.1
      · cases List.mem_singleton.mp ha
        exact .inl s1.some.2) ow.ld
    have th1 : ∀ a ∈ l, H1 a ≠ none := fun a ha e => by
      rcases ld1 a ha with ⟨_, q⟩ | ⟨_, q⟩ <;> rw [q] at e <;> cases e
    refine ⟨_, rfl, l, v, S, rfl, hx1, th1, ok.nd, ⟨ok.rz, ok.hz, ok.lz⟩, fun vd asd H2 k2 rd od hnd => ?_⟩
    have hx2 := hx1.ke (k2.mono (l' := l) (by simp)).ke
    have D2 := k2.lst (by simp) hD
    have st0 : ∀ a ∈ l, H2 a ≠ none := fun a ha e => th1 a ha (k2.n a e)
    have ow2 : Ow K H2 (.ref D) 3 as := ow.ke k2.ke0
    have ld2 : LD l H2 := ld1.kp k2
    have sl : ∀ z ∈ [st, sc], z ∈ l := fun z hz => hl ▸ List.mem_append_left _ hz
    have al : ∀ z ∈ as, z ∈ l := fun z hz => hl ▸ List.mem_append_right _ hz
    have kk12 : Ke (off [st, sc] H1) H2 := Ke.off.trans k2.ke0
    have R1 := r1.ke kk12
    have R2 := r2.ke kk12
    have R3 := r3.ke kk12
    have RD : Rp K H2 (.ref D) (.list [e1, e2, e3]) := .lst D2 (.cons R1 (.cons R2 (.cons R3 .nil)))
    obtain ⟨g1, g2, g3⟩ := handed_sht ok sm hN hN2 p1 p2 p3
    have hT2 : TabsN T H2 := k2.t (k1.t hT)
    have s2 : StrAt (b + (6 * N + 3)) st sc H2 := s1.kp k2 (by simp) (by simp)
    have k02 : Kp T [st, sc] H H2 := k1.trans (k2.mono (by simp))
    clear k1 k2 kk12 r1 r2 r3 ow ld1 th1 hx1 hS hL hx hD
    refine ⟨_, _, rfl, ?_⟩
    -- was, made
    refine rd_next ?_
    dsimp only
    refine ⟨_, rfl, .ref D, _, rfl, RD, .inl ⟨_, rfl⟩, g1, g2, g3, ?_⟩
    refine ⟨_, rfl, D, _, _, _, rfl, rfl, SqL.of D2, rfl, _, rfl, D, _, _, _, rfl, rfl, SqL.of D2, rfl, _, rfl, D, _, _, _, rfl, rfl, SqL.of D2, rfl, fun x dx hx0 hdx ndx => ?_⟩
    have mk0 := ke_mk (C := C) hx0 hdx
    obtain ⟨ra, rxs, rt, rooms', rfl, q1, p1', pm1⟩ := pm_flat (f := rmA) scl_rmA p1 R1
    obtain ⟨ha, hxs, ht, homes', rfl, q2, p2', pm2⟩ := pm_strs p2 R2
    obtain ⟨la, lxs, lt, lanes', rfl, q3, p3', pm3⟩ := pm_flat (f := lnA) scl_lnA p3 R3
    refine ⟨x, dx, ra, rxs, rt, ha, hxs, ht, la, lxs, lt, rooms', homes', lanes', rfl, upd_same, (kp_mk hx0 hdx ndx).t hT2, q1.ke mk0, paired_ke p1' mk0, q2.ke mk0, p2', q3.ke mk0, paired_ke p3' mk0, okSp_perm ok pm1 pm2 pm3, fun H3 k3' hsp => ⟨rfl, ?_⟩⟩
    have k3 := kp_made hx0 hdx ndx k3'
    have sx : SpAt K C (off l H3) x (dueS S) := by
      have q := hsp l (ld_mk hx0 hdx ld2)
      rw [srtS_perm pm1 pm2 pm3] at q
      rw [due_srt ok.nd]
      exact q
    clear hsp k3' mk0
    refine ⟨_, _, rfl, ?_⟩
    -- other
    refine rd_next ?_
    dsimp only
    have hx3 := hx2.ke (k3.mono (l' := l) (by simp)).ke
    have st3 : ∀ a ∈ l, H3 a ≠ none := fun a ha e => st0 a ha (k3.n a e)
    obtain ⟨a, r1, r2, r3, ls, rfl, h0, h1, h2, h3, h4⟩ := rp_spD hx3
    have c3 : Ke (off l H3) H3 := Ke.off
    refine rd_seq ?_
    refine ⟨_, rfl, rIx_of (t := false) (i := 2) (c3.tq h0) rfl ⟨.ref r3, .list (S.lanes.map lnD), l, rfl, st3, .lst h3 h4, by simpa [noD] using noDA_map (f := lnD) S.lanes fun _ => rfl, ?_, ?_, fun v3 as3 H4 k4 rv3 ow3 hn3 => ?_⟩⟩
    · have := smalA_flt (flt_map flt_ln S.lanes)
      simp [smal, this, ok.lz]
    · have := lvA_flt (flt_map flt_ln S.lanes)
      simp only [lv]; omega
    have st4 : ∀ a ∈ l, H4 a ≠ none := fun a ha e => st3 a ha (k4.n a e)
    have ke4 : Ke (off l H3) (off l H4) := (k4.mono (l' := l) (by simp)).ke
    have c4 : Ke (off l H3) H4 := ke4.trans Ke.off
    refine ⟨_, rfl, rIx_of (t := false) (i := 1) (c4.tq h0) rfl ⟨.ref r2, .list (S.homes.map .str), l, rfl, st4, .lst (ke4 _ _ h2 fun _ z => by cases z) (rpA_strs _), by simpa [noD] using noDA_map (f := PyData.str) S.homes fun _ => rfl, ?_, ?_, fun v2 as2 H5 k5 rv2 ow2' hn2 => ?_⟩⟩
    · have := smalA_flt (flt_map flt_str S.homes)
      simp [smal, this, ok.hz]
    · have := lvA_flt (flt_map flt_str S.homes)
      simp only [lv]; omega
    have k35 := k4.trans k5
    have ke5 : Ke (off l H3) (off l H5) := (k35.mono (l' := l) (by simp)).ke
    have c5 : Ke (off l H3) H5 := ke5.trans Ke.off
    refine ⟨_, rfl, rIx_of (t := false) (i := 0) (c5.tq h0) rfl ⟨r1, _, rfl, c5 _ _ h1 (fun _ z => by cases z), fun H6 p ts kp6 hp6 hts hpt hpl hpp => ?_⟩⟩
    have k6 : Kp T [] H5 H6 := Kp.same kp6
    refine ⟨rfl, rfl, fun y dy hy0 hdy ndy => ?_⟩
    have mk1 := ke_mk (C := C) hy0 hdy
    have hP : RpA K H6 (ts.map V.ref) (S.rooms.map rmD) := by
      have q := rp_items (K := K) (H := H6) (rpD_rm S.rooms) (xs := rmK S.rooms) (ts := ts) hpp
      rw [List.map_map] at q
      exact q
    cases rv2 with
    | lst f1 f2 =>
    cases rv3 with
    | lst g1' g2' =>
    rename_i h2a h2x l3a l3x
    have f2' := rpA_str_inv f2
    subst f2'
    have hH6 : H6 h2a = some (.lst (S.homes.map V.str)) := k6.lst (by simp) (of_off f1).2
    have hL6 : H6 l3a = some (.lst l3x) := (k5.trans k6).lst (by simp) (of_off g1').2
    have hA6 : RpA K H6 l3x (S.lanes.map lnD) := (g2'.ke Ke.off).ke (k5.trans k6).ke0
    have k36 := k35.trans k6
    have k26 := k3.trans k36
    refine ⟨y, dy, p, ts.map V.ref, true, h2a, S.homes.map V.str, true, l3a, l3x, true, S.rooms, S.homes, S.lanes, rfl, upd_same, (kp_mk hy0 hdy ndy).t (k26.t hT2), SqB.ke (t := true) (SqL.of hpl) mk1, paired_ke (rpS_tup (f := rmA) hP) mk1, SqB.ke (t := true) (SqL.of hH6) mk1, rfl, SqB.ke (t := true) (SqL.of hL6) mk1, paired_ke (rpS_tup (f := lnA) hA6) mk1, ok, fun H7 k7' hsp => ⟨rfl, ?_⟩⟩
    have k7 := kp_made hy0 hdy ndy k7'
    have k27 := k26.trans k7
    have k37 := k36.trans k7
    have sy : SpAt K C (off l H7) y (dueS S) := by
      have q := hsp l (ld_mk hy0 hdy (ld2.kp k26))
      rw [due_srt ok.nd]
      exact q
    have sx7 := sx.ke (k37.mono (l' := l) (by simp)).ke
    have rd7 := rd.ke (k27.mono (l' := l) (by simp)).ke
    have ow7 := ow2.ke k27.ke0
    have RD7 := RD.ke k27.ke0
    have D7 := k27.lst (by simp) D2
    have hx7 := hx2.ke (k27.mono (l' := l) (by simp)).ke
    have st7 : ∀ a ∈ l, H7 a ≠ none := fun a ha e => st0 a ha (k27.n a e)
    have ld7 : LD l H7 := ld2.kp k27
    have kT7 : Kp T [st, sc] H H7 := k02.trans (k27.mono (by simp))
    have s7 : StrAt (b + (6 * N + 3)) st sc H7 := s2.kp k27 (by simp) (by simp)
    have nd' := due_nd ok.nd
    have sz' := due_sz ok
    have tx' := due_tx ok
    clear hsp k7' mk1 hP f1 f2 g1' g2' hH6 hL6 hA6 k36 k26 k35 kp6 hp6 hts hpt hpl hpp k6 k5 k4 ke4 ke5 c3 c4 c5 st3 st4 h0 h1 h2 h3 h4 hx3 hx2 D2 RD rd sx k37 k27 k02 hT2 s2 ow2 st0 ld2 ow3 hn3 ow2' hn2 k3 pm1 pm2 pm3 q1 q2 q3 p1' p2' p3' R1 R2 R3 hx0 hdx ndx hy0 hdy ndy k7
    -- found
    refine rd_next ?_
    dsimp only
    refine rd_seq ?_
    refine ⟨_, rfl, [], x, dueS S, rfl, sx7.ke (Ke.sub (by simp)), (fun _ z => by cases z), nd', sz', fun f1 as1 H8 k8 rf1 of1 nf1 => ?_⟩
    refine ⟨_, rfl, [], y, dueS S, rfl, (sy.ke (k8.mono (l' := l) (by simp)).ke).ke (Ke.sub (by simp)), (fun _ z => by cases z), nd', sz', fun f2 as2 H9 k9 rf2 of2 nf2 => ⟨by show 2 ≤ sizeLine; decide, fun FL hFL => ?_⟩⟩
    have k10 : Kp T [] H9 (upd H9 FL (.lst [f1, f2])) := Kp.new hFL
    have oF : Ow K (upd H9 FL (.lst [f1, f2])) (.ref FL) 4 (FL :: (as1 ++ (as2 ++ []))) := .lst upd_same (by simp) (OwA.cons ((of1.ke k9.ke0).ke k10.ke0) (OwA.cons (of2.ke k10.ke0) .nil (fun _ _ z => by cases z)) (fun a ha hb => of1.there a ha (nf2 a (by simpa using hb)))) (by
      intro hm
      rcases List.mem_append.mp hm with hm | hm
      · exact (of1.ke k9.ke0).there FL hm hFL
      · exact of2.there FL (by simpa using hm) hFL)
    have rF : Rp K (upd H9 FL (.lst [f1, f2])) (.ref FL) (two2 (dueS S)) := .lst upd_same (.cons (((rf1.ke Ke.off).ke k9.ke0).ke k10.ke0) (.cons ((rf2.ke Ke.off).ke k10.ke0) .nil))
    obtain ⟨aF, haF⟩ : ∃ aF, aF = FL :: (as1 ++ (as2 ++ [])) := ⟨_, rfl⟩
    have nF7 : ∀ a ∈ aF, H7 a = none := fun a ha => by
      rw [haF] at ha
      rcases List.mem_cons.mp ha with rfl | ha
      · exact k8.n _ (k9.n _ hFL)
      · rcases List.mem_append.mp ha with ha | ha
        · exact nf1 a ha
        · exact k8.n _ (nf2 a (by simpa using ha))
    rw [← haF] at oF
    generalize upd H9 FL (.lst [f1, f2]) = H10 at k10 oF rF ⊢
    have k710 := (k8.trans k9).trans k10
    clear k8 k9 k10 of1 of2 nf1 nf2 rf1 rf2 hFL haF
    -- if repr(handed) != was or ..
    refine rd_next ?_
    dsimp only
    refine rd_seq ?_
    refine ⟨_, rfl, .ref D, _, rfl, RD7.ke k710.ke0, .inl ⟨_, rfl⟩, g1, g2, g3, _, rfl, rfl, _, rfl, iteNS rfl ?_⟩
    have rd10 := (rd7.ke (k710.mono (l' := l) (by simp)).ke).ke Ke.off
    refine ⟨_, rfl, _, rfl, _, rfl, by show 2 ≤ sizeLine; decide, fun PL hPL => ⟨.ref FL, .ref PL, two2 (dueS S), rfl, rF.ke (Ke.new hPL), .lst upd_same (.cons (rd10.ke (Ke.new hPL)) (.cons (rd10.ke (Ke.new hPL)) .nil)), lv_two2 _, fun H11 k11' => ⟨_, rfl, iteF ?_⟩⟩⟩
    have k11 : Kp T [] H10 H11 := (Kp.new hPL).trans k11'
    have k711 := k710.trans k11
    have oF11 := oF.ke k11.ke0
    clear k11' k11 hPL oF rF rd10 k710
    -- spoilt
    refine rd_next ?_
    dsimp only
    refine rd_seq ?_
    refine ⟨_, rfl, .ref FL, 4, aF, rfl, oF11, by decide, fun H12 k12 ki12 => ?_⟩
    refine rd_next ?_
    dsimp only
    refine rd_seq ?_
    have k712 : Kp T [] H7 H12 := Kp.fresh k711 (k12.mono (fun z hz => List.mem_append_left _ hz)) nF7
    have ow12 : Ow K H12 (.ref D) 3 as := (ow7.ke k711.ke0).kp k12 oF11.ld (fun a ha hb => st7 a (al a ha) (nF7 a hb))
    refine ⟨_, rfl, .ref D, 3, as, rfl, ow12, by decide, fun H13 k13 ki13 => ?_⟩
    have k713 : Kp T l H7 H13 := (k712.mono (by simp)).trans (k13.mono al)
    have sx13 := sx7.ke k713.ke
    have sy13 := sy.ke k713.ke
    have rd13 := rd7.ke k713.ke
    have hx13 := hx7.ke k713.ke
    have st13 : ∀ a ∈ l, H13 a ≠ none := fun a ha e => st7 a ha (k713.n a e)
    obtain ⟨Dxs, D13⟩ : ∃ xs, H13 D = some (.lst xs) := (((KiS.kp k711).trans ki12).trans ki13) D _ D7
    have kT13 : Kp T [st, sc] H H13 := by
      have q : Kp T ([st, sc] ++ as) H7 H13 := (k712.mono (by simp)).trans (k13.mono fun z hz => List.mem_append_right _ hz)
      exact Kp.fresh kT7 (q.mono fun z hz => by
        rcases List.mem_append.mp hz with h | h
        · exact List.mem_append_right _ h
        · exact List.mem_append_left _ h) hnew
    have stn : ∀ z ∈ [st, sc], z ∉ as := fun z hz ha => by
      have q := hnew z ha
      rcases List.mem_cons.mp hz with rfl | hz
      · rw [t1] at q; cases q
      · cases List.mem_singleton.mp hz
        rw [t2] at q; cases q
    have s13 : StrAt (b + (6 * N + 3)) st sc H13 := (s7.kp k712 (by simp) (by simp)).kp k13 (stn _ (by simp)) (stn _ (by simp))
    clear k711 k712 k713 oF11 ow12 k12 ki12 k13 ki13 nF7 sx7 sy rd7 hx7 st7 ld7 s7 kT7 D7 ow7 RD7 stn hnew
    refine rd_next ?_
    dsimp only
    refine rd_seq ?_
    -- told once more
    refine ⟨_, rfl, [], x, dueS S, rfl, sx13.ke (Ke.sub (by simp)), (fun _ z => by cases z), nd', sz', fun f1 as1 H8 k8 rf1 of1 nf1 => ?_⟩
    refine ⟨_, rfl, [], y, dueS S, rfl, (sy13.ke (k8.mono (l' := l) (by simp)).ke).ke (Ke.sub (by simp)), (fun _ z => by cases z), nd', sz', fun f2 as2 H9 k9 rf2 of2 nf2 => ⟨by show 2 ≤ sizeLine; decide, fun FL hFL => ?_⟩⟩
    have k10 : Kp T [] H9 (upd H9 FL (.lst [f1, f2])) := Kp.new hFL
    have rF : Rp K (upd H9 FL (.lst [f1, f2])) (.ref FL) (two2 (dueS S)) := .lst upd_same (.cons (((rf1.ke Ke.off).ke k9.ke0).ke k10.ke0) (.cons ((rf2.ke Ke.off).ke k10.ke0) .nil))
    generalize upd H9 FL (.lst [f1, f2]) = H10 at k10 rF ⊢
    have k1310 := (k8.trans k9).trans k10
    have rd10 := (rd13.ke (k1310.mono (l' := l) (by simp)).ke).ke Ke.off
    refine ⟨_, rfl, _, rfl, by show 2 ≤ sizeLine; decide, fun PL hPL => ⟨.ref FL, .ref PL, two2 (dueS S), rfl, rF.ke (Ke.new hPL), .lst upd_same (.cons (rd10.ke (Ke.new hPL)) (.cons (rd10.ke (Ke.new hPL)) .nil)), lv_two2 _, fun H11 k11' => ⟨_, rfl, iteF ?_⟩⟩⟩
    have k1311 : Kp T [] H13 H11 := (k1310.trans (Kp.new hPL)).trans k11'
    have e11 := (k1311.mono (l' := l) (by simp)).ke
    have sx11 := (sx13.ke e11).sp3.ke Ke.off
    have sy11 := (sy13.ke e11).sp3.ke Ke.off
    have hx11 := hx13.ke e11
    have st11 : ∀ a ∈ l, H11 a ≠ none := fun a ha e => st13 a ha (k1311.n a e)
    have D11 := k1311.lst (by simp) D13
    have kT11 := kT13.trans (k1311.mono (by simp))
    have s11 := s13.kp k1311 (by simp) (by simp)
    clear k8 k9 k10 of1 of2 nf1 nf2 rf1 rf2 hFL rF rd10 k1310 hPL k11' k1311 e11 sx13 sy13 hx13 st13 D13 kT13 s13 rd13
    refine rd_next ?_
    dsimp only
    refine rd_seq ?_
    -- made == other, ..
    refine ⟨_, rfl, _, rfl, rOwnEq_self sx11 tx' nd' sy11 ⟨_, rfl, _, rfl, rOwnNe_self sx11 tx' nd' sy11 ⟨_, rfl, _, rfl, rOwnEq_self sy11 tx' nd' sx11 ⟨_, rfl, _, rfl, rOwnEq_self sx11 tx' nd' sx11 ?_⟩⟩⟩⟩
    refine ⟨by show 4 ≤ sizeLine; decide, fun A1 hA1 => ⟨by show 4 ≤ sizeLine; decide, fun A2 hA2 => ?_⟩⟩
    have q1 := rpA_bls (K := K) (H := upd (upd H11 A1 (.lst [.bl true, .bl false, .bl true, .bl true])) A2 (.lst [.bl true, .bl false, .bl true, .bl true])) [true, false, true, true]
    refine ⟨.ref A1, .ref A2, .list ([true, false, true, true].map .bool), rfl, .lst (by rw [upd_ne (ne_of_none upd_same hA2)]; exact upd_same) q1, .lst upd_same q1, by decide, fun H14 k14 => ⟨_, rfl, iteF ?_⟩⟩
    have k1114 : Kp T [] H11 H14 := ((Kp.new hA1).trans (Kp.new hA2)).trans k14
    have e14 := (k1114.mono (l' := l) (by simp)).ke
    have sx14 := sx11.ke k1114.ke0
    have hx14 := hx11.ke e14
    have st14 : ∀ a ∈ l, H14 a ≠ none := fun a ha e => st11 a ha (k1114.n a e)
    have D14 := k1114.lst (by simp) D11
    have kT14 := kT11.trans (k1114.mono (by simp))
    have s14 := s11.kp k1114 (by simp) (by simp)
    clear q1 hA1 hA2 k14 k1114 e14 sx11 sy11 hx11 st11 D11 kT11 s11
    refine rd_next ?_
    dsimp only
    refine rd_seq ?_
    -- the odd things
    refine ⟨Nat.zero_le _, fun q1 hq1 => ?_⟩
    intro q2 hq2
    have ka : Kp T [] H14 (upd (upd H14 q1 (.lst [])) q2 (.dK [])) := (Kp.new hq1).trans (Kp.new hq2)
    have i1 : (upd (upd H14 q1 (.lst [])) q2 (.dK [])) q1 = some (.lst []) := by rw [upd_ne (ne_of_none upd_same hq2)]; exact upd_same
    have i2 : (upd (upd H14 q1 (.lst [])) q2 (.dK [])) q2 = some (.dK []) := upd_same
    show tCons _ _ _ (upd (upd H14 q1 (.lst [])) q2 (.dK [])) _
    generalize upd (upd H14 q1 (.lst [])) q2 (.dK []) = Ha at ka i1 i2 ⊢
    have sta : ∀ a ∈ l, Ha a ≠ none := fun a ha e => st14 a ha (ka.n a e)
    refine ⟨_, rfl, _, rfl, l, _, S, rfl, hx14.ke (ka.mono (l' := l) (by simp)).ke, sta, ok.nd, ⟨ok.rz, ok.hz, ok.lz⟩, fun v7 as7 Hb kb r7 o7 n7 => ?_⟩
    have kab := ka.trans kb
    have stb : ∀ a ∈ l, Hb a ≠ none := fun a ha e => st14 a ha (kab.n a e)
    refine ⟨_, rfl, l, _, S, rfl, hx14.ke (kab.mono (l' := l) (by simp)).ke, stb, ok.nd, ⟨ok.rz, ok.hz, ok.lz⟩, fun v8 as8 Hc kc r8 o8 n8 => ?_⟩
    obtain ⟨a7, xs7, rfl, b7, -⟩ := r7.ref_list
    obtain ⟨a8, xs8, rfl, b8, -⟩ := r8.ref_list
    have b7 := (of_off b7).2
    have b8 := (of_off b8).2
    refine ⟨a8, xs8, rfl, .inl ⟨SqL.of b8, fun q8 hq8 => ⟨by show 8 ≤ sizeLine; decide, fun TP hTP => ?_⟩⟩⟩
    have kd : Kp T [] H14 (upd (upd Hc q8 (.tup xs8)) TP (.tup [.non, .int 0, .str "space", .ref q1, .ref q2, .ref D, .ref a7, .ref q8])) := ((kab.trans kc).trans (Kp.new hq8)).trans (Kp.new hTP)
    have odd : ∀ (i : Nat) (z : V), ([.non, .int 0, .str "space", .ref q1, .ref q2, .ref D, .ref a7, .ref q8] : List V)[i]? = some z → ∃ g, TgOf K (upd (upd Hc q8 (.tup xs8)) TP (.tup [.non, .int 0, .str "space", .ref q1, .ref q2, .ref D, .ref a7, .ref q8])) z g := by
      have ke : Ke Hc (upd (upd Hc q8 (.tup xs8)) TP (.tup [.non, .int 0, .str "space", .ref q1, .ref q2, .ref D, .ref a7, .ref q8])) := ((Kp.new (T := T) hq8).trans (Kp.new hTP)).ke0
      intro i z e
      match i, e with
      | 0, e => cases e; exact ⟨_, .non⟩
      | 1, e => cases e; exact ⟨_, .int _⟩
      | 2, e => cases e; exact ⟨_, .str _⟩
      | 3, e => cases e; exact ⟨_, .lst (SqL.of (ke _ _ ((kb.trans kc).lst (by simp) i1) fun _ z => by cases z))⟩
      | 4, e => cases e; exact ⟨_, .dK (.inl (ke _ _ ((kb.trans kc).dK (by simp) i2) fun _ z => by cases z))⟩
      | 5, e => cases e; exact ⟨_, .lst (SqL.of (kd.lst (by simp) D14))⟩
      | 6, e => cases e; exact ⟨_, .lst (SqL.of (ke _ _ (kc.lst (by simp) b7) fun _ z => by cases z))⟩
      | 7, e => cases e; exact ⟨_, .tup (SqT.of (by rw [upd_ne (ne_of_none upd_same hTP)]; exact upd_same))⟩
      | n + 8, e => simp at e
    have hTP' : (upd (upd Hc q8 (.tup xs8)) TP (.tup [.non, .int 0, .str "space", .ref q1, .ref q2, .ref D, .ref a7, .ref q8])) TP = some (.tup [.non, .int 0, .str "space", .ref q1, .ref q2, .ref D, .ref a7, .ref q8]) := upd_same
    generalize upd (upd Hc q8 (.tup xs8)) TP (.tup [.non, .int 0, .str "space", .ref q1, .ref q2, .ref D, .ref a7, .ref q8]) = Hd at kd odd hTP' ⊢
    generalize ([.non, .int 0, .str "space", .ref q1, .ref q2, .ref D, .ref a7, .ref q8] : List V) = odds at odd hTP' ⊢
    have sxd := sx14.ke kd.ke0
    have kTd := kT14.trans (kd.mono (by simp))
    have sd := s14.kp kd (by simp) (by simp)
    refine ⟨TP, odds, false, rfl, SqT.of hTP', fun J Gj hsz W hG => ?_⟩
    refine for_it W (fun i σ H' => (∃ z7 z8, σ = [some (.ref st), some (.ref a), some (.ref D), some vd, some (.str (PyData.list [e1, e2, e3]).shown), some (.ref x), some (.ref y), z7, z8]) ∧ Kp T [] Hd H') ⟨⟨_, _, rfl⟩, Kp.refl⟩ (fun i σ H' _ p => hG H' (p.2.ke0.tq (SqT.of hTP'))) (fun i z σ H' H'' hi p zz => ?_) fun σ H' p => ?_
    · obtain ⟨⟨z7, z8, rfl⟩, kp'⟩ := p
      obtain ⟨rfl, ez⟩ := zz
      obtain ⟨g, tg⟩ := odd i z ez
      have tg := tg.ke kp'.ke0
      have sx' := sxd.ke kp'.ke0
      refine ⟨_, rfl, _, rfl, rOwnEq_odd sx' tx' tg ⟨_, rfl, _, rfl, rOwnNe_odd sx' tx' tg ?_⟩⟩
      refine ⟨by show 2 ≤ sizeLine; decide, fun A1 hA1 => ⟨by show 2 ≤ sizeLine; decide, fun A2 hA2 => ?_⟩⟩
      have qq := rpA_bls (K := K) (H := upd (upd H'' A1 (.lst [.bl false, .bl true])) A2 (.lst [.bl false, .bl true])) [false, true]
      refine ⟨.ref A1, .ref A2, .list ([false, true].map .bool), rfl, .lst (by rw [upd_ne (ne_of_none upd_same hA2)]; exact upd_same) qq, .lst upd_same qq, by decide, fun H16 k16 => ⟨_, rfl, iteF ?_⟩⟩
      exact ⟨⟨_, _, rfl⟩, kp'.trans (((Kp.new hA1).trans (Kp.new hA2)).trans k16)⟩
    · obtain ⟨⟨z7, z8, rfl⟩, kp'⟩ := p
      exact k H' (kTd.trans (kp'.mono (by simp))) (sd.kp kp' (by simp) (by simp))
end
end Sky
set_option Elab.async false
set_option linter.all false
set_option maxRecDepth 100000
set_option maxHeartbeats 4000000
/-! == of told spaces. -/
namespace Sky
open PySem PySem.Spec PyProof.Rows L2 LamX NdefX PySem.W
theorem rmK_inj : ∀ {r1 r2 : List (Str × Int)}, rmK r1 = rmK r2 → r1 = r2
  | [], [], _ => rfl
  | [], _ :: _, h => by cases h
  | _ :: _, [], h => by cases h
  | p :: r, q :: t, h => by
    unfold rmK at h
    rw [List.map_cons, List.map_cons] at h
    injection h with h1 h2
    injection h1 with h3 h4
    injection h3 with h3
    injection h4 with h4
    rw [rmK_inj (r1 := r) (r2 := t) h2]
    congr 1
    exact Prod.ext h3 h4
theorem sub_back {α : Type} [DecidableEq α] : ∀ {l m : List α}, l.Nodup → (∀ x ∈ l, x ∈ m) → m.length ≤ l.length → ∀ x ∈ m, x ∈ l
  | [], m, _, _, h, x, hx => by
    have : m = [] := List.length_eq_zero_iff.mp (by simpa using h)
    rw [this] at hx
    cases hx
  | a :: l, m, nd, hs, h, x, hx => by
    rw [List.nodup_cons] at nd
    have ha := hs a (List.mem_cons_self ..)
    by_cases e : x = a
    · rw [e]; exact List.mem_cons_self ..
    · refine List.mem_cons_of_mem _ (sub_back (m := m.erase a) nd.2 (fun y hy => ?_) ?_ x ((List.mem_erase_of_ne e).mpr hx))
      · exact (List.mem_erase_of_ne (fun z : y = a => nd.1 (by rw [← z]; exact hy))).mpr (hs y (List.mem_cons_of_mem _ hy))
      · rw [List.length_erase_of_mem ha]
        rw [List.length_cons] at h
        omega
theorem rget_in {r : List (Str × Int)} {n : Str} {i : Int} (e : rget r n = some i) : (n, i) ∈ r := by
  unfold rget at e
  obtain ⟨q, e1, e2⟩ := Option.map_eq_some_iff.mp e
  have q2 := List.find?_some e1
  have q2 : q.1 = n := of_decide_eq_true q2
  rw [← q2, ← e2]
  exact List.mem_of_find?_eq_some e1
theorem nodup_of_map {α β : Type} {f : α → β} : ∀ {l : List α}, (l.map f).Nodup → l.Nodup
  | [], _ => List.nodup_nil
  | a :: l, h => by
    rw [List.map_cons, List.nodup_cons] at h
    exact List.nodup_cons.mpr ⟨fun z => h.1 (List.mem_map.mpr ⟨a, z, rfl⟩), nodup_of_map h.2⟩
theorem dEq_go {r1 r2 : List (Str × Int)} (n1 : (r1.map (·.1)).Nodup) (h : dEq r1 r2 = true) : dEq r2 r1 = true := by
  unfold dEq at h ⊢
  simp only [Bool.and_eq_true, beq_iff_eq, List.all_eq_true, decide_eq_true_eq] at h ⊢
  obtain ⟨hl, h⟩ := h
  refine ⟨hl.symm, fun p hp => ?_⟩
  exact rget_mem n1 (sub_back (nodup_of_map n1) (fun q hq => rget_in (h q hq)) (by omega) p hp)
theorem dEq_comm {r1 r2 : List (Str × Int)} (n1 : (r1.map (·.1)).Nodup) (n2 : (r2.map (·.1)).Nodup) : dEq r1 r2 = dEq r2 r1 := by
  cases h : dEq r1 r2 with
  | true => exact (dEq_go n1 h).symm
  | false =>
    cases h2 : dEq r2 r1 with
    | false => rfl
    | true => rw [dEq_go n2 h2] at h; cases h
theorem spEqB_comm {S1 S2 : SpD} (n1 : (S1.rooms.map (·.1)).Nodup) (n2 : (S2.rooms.map (·.1)).Nodup) : spEqB S1 S2 = spEqB S2 S1 := by
  unfold spEqB
  rw [dEq_comm n1 n2, PySem.W.eqv_comm (.list (S1.homes.map .str)), PySem.W.eqv_comm (.list (S1.lanes.map lnD))]
section
variable {X : Cx} {pins : List (Addr × Obj)} {σ : L2.St} {H : Hp} {s : Shared}
theorem hits_intsP {P : Program} {w : World} {A : Around} {s : Shared} {ls : List (Str × Int)} {vb : List (Key × Value)} (rb : KV (rmKv ls) vb) : ∀ {ks : List (Str × Int)} {va : List (Key × Value)}, KV (rmKv ks) va → KeqHitsP P w A s vb va (ks.all fun p => decide (rget ls p.1 = some p.2))
  | [], va, ra => by
    have ra' : KV ([] : List (Key × V)) va := ra
    cases ra'
    exact .nil
  | p :: ks, va, ra => by
    have ra' : KV ((Sum.inr p.1, V.int p.2) :: rmKv ks) va := ra
    cases ra' with
    | cons h t =>
      rename_i q qs
      obtain ⟨k, v⟩ := q
      obtain ⟨h1, h2⟩ := h
      have h1' : (Sum.inr p.1 : Key) = k := h1
      subst h1'
      have q := rb.val (Sum.inr p.1)
      rw [valV_get] at q
      rw [List.all_cons]
      cases e : rget ls p.1 with
      | none =>
        rw [e] at q
        have e2 : valueAt vb (Sum.inr p.1) = none := by
          cases z : valueAt vb (Sum.inr p.1) with
          | none => rfl
          | some y => rw [z] at q; exact q.elim
        have e3 : (decide ((none : Option Int) = some p.2) && ks.all fun p => decide (rget ls p.1 = some p.2)) = false := by simp
        rw [e3]
        exact .miss e2
      | some j =>
        rw [e] at q
        obtain ⟨y, hy, ry⟩ := RelO.some_of q
        have e3 : decide (some j = some p.2) = decide (p.2 = j) := by
          rw [Bool.eq_iff_iff]
          simp
          exact ⟨fun h => h.symm, fun h => h.symm⟩
        rw [e3]
        exact .hit hy (int_at h2 ry).eqP (hits_intsP rb t)
theorem eqP_rooms (I : Inv X pins σ H s) {A : Around} (hu : A.units < cLine) {a b : Addr} {r1 r2 : List (Str × Int)} (h1 : H a = some (.dK (rmK r1))) (h2 : H b = some (.dK (rmK r2))) (nd : (r1.map (·.1)).Nodup) : SeqAt.EqP X.prog X.w A s (.ref a) (.ref b) (dEq r1 r2) := by
  by_cases e : a = b
  · subst e
    rw [h1] at h2
    have e2 : rmK r1 = rmK r2 := by injection h2 with h2; injection h2
    rw [← rmK_inj e2, dEq_refl nd]
    exact (SeqAt.EqAt.same _).eqP
  · refine SeqAt.eqP_refs e fun E Q q => ?_
    obtain ⟨_, ya, va, ra, da⟩ := (show ObjOk X.prog X.w H s.heap a (.dK (rmKv r1)) from I.hok a _ h1)
    obtain ⟨_, yb, vb, rb, db⟩ := (show ObjOk X.prog X.w H s.heap b (.dK (rmKv r2)) from I.hok b _ h2)
    refine PySem.W.rcP_dicts (knd := mixKind X.prog X.w) ya yb da db hu (fun _ => hits_intsP rb ra) E Q ?_
    have e1 : va.length = r1.length := by rw [← ra.length]; unfold rmKv; rw [List.length_map]
    have e2 : vb.length = r2.length := by rw [← rb.length]; unfold rmKv; rw [List.length_map]
    rw [e1, e2]
    exact q
/-- == of two told spaces -/
def rEqTold (K : PySem.W.Frag) : R2 := fun x y H Q => ∃ S1 S2, Rp K H x (toldD S1) ∧ Rp K H y (toldD S2) ∧ TxS S1 ∧ TxS S2 ∧ (S1.rooms.map (·.1)).Nodup ∧ Q (.bl (spEqB S1 S2)) H
theorem plain_shaped {d : PyData} (h : SeqAt.shaped d = true) : d.plain = true := by
  unfold SeqAt.shaped at h
  simp only [Bool.and_eq_true] at h
  exact PyData.plain_of_canLay0 d h.1
theorem eqP_data (I : Inv X pins σ H s) {A : Around} (hu : A.units + 64 < cLine) {x y : V} {v u : Value} {d e : PyData} (hx : Rp X.K H x d) (hy : Rp X.K H y e) (rx : RelV x v) (ry : RelV y u) (nx : noD d = true) (ny : noD e = true) (sx : SeqAt.shaped d = true) (sy : SeqAt.shaped e = true) : SeqAt.EqP X.prog X.w A s v u (PyData.eqv d e) := by
  obtain ⟨as, r1⟩ := Dp.reads I d x v (hx.dp nx) rx
  obtain ⟨bs, r2⟩ := Dp.reads I e y u (hy.dp ny) ry
  have hd : d.depth ≤ 64 := SeqAt.depth_of_shaped sx
  exact (SeqAt.eqAt_plain d e A s v u as bs r1 r2 (plain_shaped sx) (plain_shaped sy) (by omega)).eqP
theorem op_eqTold (hu : X.A.units + 70 < cLine) : OpR X (compareOp .Eq) (rEqTold X.K) := by
  intro pins s σ H x y v u Q I rx ry h
  obtain ⟨S1, S2, h1, h2, t1, t2, nd, q⟩ := h
  obtain ⟨a, xs, rfl, ea, ha⟩ := h1.ref_list
  obtain ⟨b, ys, rfl, eb, hb⟩ := h2.ref_list
  obtain rfl : v = Value.ref a := rx
  obtain rfl : u = Value.ref b := ry
  obtain ⟨its, rv, p1, _⟩ := I.list (SqL.of ea)
  obtain ⟨jts, rw', p2, _⟩ := I.list (SqL.of eb)
  cases ha with
  | cons a1 ha =>
  cases ha with
  | cons a2 ha =>
  cases ha with
  | cons a3 ha =>
  cases ha
  cases hb with
  | cons b1 hb =>
  cases hb with
  | cons b2 hb =>
  cases hb with
  | cons b3 hb =>
  cases hb
  cases rv with
  | cons v1 rv =>
  cases rv with
  | cons v2 rv =>
  cases rv with
  | cons v3 rv =>
  cases rv
  cases rw' with
  | cons w1 rw' =>
  cases rw' with
  | cons w2 rw' =>
  cases rw' with
  | cons w3 rw' =>
  cases rw'
  rename_i i1 i2 i3 j1 j2 j3
  have hu1 : X.A.in1.units + 64 < cLine := by show X.A.units + 1 + 64 < cLine; omega
  have q1 : SeqAt.EqP X.prog X.w X.A.in1 s i1 j1 (dEq S1.rooms S2.rooms) := by
    cases a1 with
    | dct c1 c2 =>
    cases b1 with
    | dct d1 d2 =>
    rw [rpD_rm_inv c2 rfl] at c1
    rw [rpD_rm_inv d2 rfl] at d1
    cases v1
    cases w1
    exact eqP_rooms I (by omega) c1 d1 nd
  have q2 := eqP_data I hu1 a2 b2 v2 w2 (by simpa [noD] using noDA_map S1.homes fun _ => rfl) (by simpa [noD] using noDA_map S2.homes fun _ => rfl) (shaped_strs _ t1.h) (shaped_strs _ t2.h)
  have q3 := eqP_data I hu1 a3 b3 v3 w3 (by simpa [noD] using noDA_map (f := lnD) S1.lanes fun _ => rfl) (by simpa [noD] using noDA_map (f := lnD) S2.lanes fun _ => rfl) (shaped_lanes _ t1.l) (shaped_lanes _ t2.l)
  refine SeqAt.rcP_lists (e := fun j => match j with | 0 => dEq S1.rooms S2.rooms | 1 => PyData.eqv (.list (S1.homes.map .str)) (.list (S2.homes.map .str)) | _ => PyData.eqv (.list (S1.lanes.map lnD)) (.list (S2.lanes.map lnD))) p1.isList p2.isList rfl (by omega) (fun j h1 h2 => ?_) _ _ ?_
  · have h1' : j < 3 := h1
    match j, h1' with
    | 0, _ => exact q1
    | 1, _ => exact q2
    | 2, _ => exact q3
  · refine ⟨.bl _, H, I, rfl, ?_⟩
    have e : spEqB S1 S2 = ((List.range 3).all fun j => match j with | 0 => dEq S1.rooms S2.rooms | 1 => PyData.eqv (.list (S1.homes.map .str)) (.list (S2.homes.map .str)) | _ => PyData.eqv (.list (S1.lanes.map lnD)) (.list (S2.lanes.map lnD))) := by
      unfold spEqB
      simp [List.range_succ]
    rw [e] at q
    exact q
end
end Sky
set_option Elab.async false
set_option linter.all false
set_option maxRecDepth 100000
set_option maxHeartbeats 4000000
namespace Sky
open PySem PySem.Spec PyProof.Rows L2 LamX NdefX
/-- short names -/
def Sh5 (S : SpD) : Prop := ∀ z, z ∈ S.rooms.map (·.1) ∨ z ∈ S.homes → z.length ≤ 5
section
variable {P : Program} {w : World} {K : PySem.W.Frag} {mg : Str → Option Value} {base : Heap} {T : List NTab} {C : Addr}
def sp_others (K : PySem.W.Frag) (T : List NTab) : Sp := fun vs H Q _ => ∃ (st sc : Addr) (l : List Addr) (v : V) (S : SpD) (b N : Nat), vs = [.ref st, v] ∧ StrAt b st sc H ∧ Hid l st sc H ∧ Rp K (off l H) v (spD S) ∧ OkSp S.rooms S.homes S.lanes ∧ Sh5 S ∧ LeS S N ∧ N ≤ 2000 ∧ b + (3 * N + 20) < 2 ^ 48 ∧
  ∀ (v' : V) (Ss : List SpD) (H' : Hp), Kp T [st, sc] H H' → Rp K (off l H') v' (.list (Ss.map spD)) → (∀ S' ∈ Ss, OkSp S'.rooms S'.homes S'.lanes) → Ss.length ≤ 20 → StrAt (b + (3 * N + 20)) st sc H' → Q v' H'
theorem rd_par {i j : Nat} {ta : TA} {D : Ends} {σ : L2.St} {H : Hp} (h : ta σ H fun vs H1 => ∃ v w, vs = [v, w] ∧ D.nx ((σ.set i (some v)).set j (some w)) H1) : tPar i j ta D σ H := h
/-- Space(list(v[0].items()), list(v[1]), list(v[2])) -/
theorem mk3_rd {i : Nat} {σ : L2.St} {H : Hp} {Q : VK} {l : List Addr} {v : V} {S : SpD} (hv : σ[i]? = some (some v)) (hx : Rp K (off l H) v (spD S)) (hT : TabsN T H) (ok : OkSp S.rooms S.homes S.lanes)
    (k : ∀ x H', Kp T [] H H' → (∀ m, LD m H → SpAt K C (off m H') x (dueS S)) → Q (.ref x) H') :
    tMk C (sp_init K T C) (tCons (LiI.tListItems (tOp (rIx K) (tVar i) (tC (.int 0)))) (tCons (tCB (rListOf K) (tCons (tOp (rIx K) (tVar i) (tC (.int 1))) tNil)) (tCons (tCB (rListOf K) (tCons (tOp (rIx K) (tVar i) (tC (.int 2))) tNil)) tNil))) σ H Q := by
  obtain ⟨a, r1, r2, r3, ls, rfl, h0, h1, h2, h3, h4⟩ := rp_spD hx
  have c0 : Ke (off l H) H := Ke.off
  refine ⟨_, hv, rIx_of (t := false) (i := 0) (c0.tq h0) rfl ⟨r1, _, rfl, (of_off h1).2, fun H1 p ts kp1 hp hts hpt hpl hpp => ?_⟩⟩
  have k1 : Kp T [] H H1 := Kp.same kp1
  have c1 : Ke (off l H) H1 := c0.trans k1.ke0
  refine ⟨_, hv, rIx_of (t := false) (i := 1) (c1.tq h0) rfl ⟨r2, _, rfl, .inl (SqL.of (c1 _ _ h2 fun _ z => by cases z)), fun q hq => ?_⟩⟩
  have k2 : Kp T [] H1 (upd H1 q (.lst (S.homes.map V.str))) := Kp.new hq
  have c2 : Ke (off l H) (upd H1 q (.lst (S.homes.map V.str))) := c1.trans k2.ke0
  refine ⟨_, hv, rIx_of (t := false) (i := 2) (c2.tq h0) rfl ⟨r3, _, rfl, .inl (SqL.of (c2 _ _ h3 fun _ z => by cases z)), fun q3 hq3 => ?_⟩⟩
  have e2 : (upd H1 q (.lst (S.homes.map V.str))) q = some (.lst (S.homes.map V.str)) := upd_same
  generalize upd H1 q (.lst (S.homes.map V.str)) = H2 at k2 c2 e2 hq3 ⊢
  have k3 : Kp T [] H2 (upd H2 q3 (.lst ls)) := Kp.new hq3
  have e3 : (upd H2 q3 (.lst ls)) q3 = some (.lst ls) := upd_same
  generalize upd H2 q3 (.lst ls) = H3 at k3 e3 ⊢
  intro x dx hx0 hdx ndx
  have mk := ke_mk (C := C) hx0 hdx
  have k03 := (k1.trans k2).trans k3
  have hP : RpA K H3 (ts.map V.ref) (S.rooms.map rmD) := by
    have q := rp_items (K := K) (H := H1) (rpD_rm S.rooms) (xs := rmK S.rooms) (ts := ts) hpp
    rw [List.map_map] at q
    exact q.ke (k2.trans k3).ke0
  refine ⟨x, dx, p, ts.map V.ref, true, q, S.homes.map V.str, true, q3, ls, true, S.rooms, S.homes, S.lanes, rfl, upd_same, (kp_mk hx0 hdx ndx).t (k03.t hT), SqB.ke (t := true) (SqL.of ((k2.trans k3).lst (by simp) hpl)) mk, paired_ke (rpS_tup (f := rmA) hP) mk, SqB.ke (t := true) (SqL.of (k3.lst (by simp) e2)) mk, rfl, SqB.ke (t := true) (SqL.of e3) mk, paired_ke (rpS_tup (f := lnA) ((h4.ke c0).ke k03.ke0)) mk, ok, fun H7 k7' hsp => ⟨rfl, ?_⟩⟩
  refine k x H7 (k03.trans (kp_made hx0 hdx ndx k7')) fun m hm => ?_
  have q := hsp m (ld_mk hx0 hdx (hm.kp k03))
  rw [due_srt ok.nd]
  exact q
end
end Sky
set_option Elab.async false
set_option linter.all false
set_option maxRecDepth 100000
set_option maxHeartbeats 400000
namespace Sky
open PySem PySem.Spec PyProof.Rows L2 LamX NdefX
/-- a good space at v -/
structure GdS (K : PySem.W.Frag) (st sc : Addr) (H : Hp) (v : V) (S : SpD) : Prop where
  x : Rp K (off [st, sc] H) v (spD S)
  ok : OkSp S.rooms S.homes S.lanes
  sm : SmS S
  sh : Sh5 S
  le : LeS S 2000
section
variable {P : Program} {w : World} {K : PySem.W.Frag} {mg : Str → Option Value} {base : Heap} {T : List NTab} {C : Addr}
abbrev s_law : Stmt := top 33
abbrev n_law : List Str := ["script", "stream", "turn", "space", "kept", "made", "others", "other", "twin", "due"]
theorem sc_law : FnScope n_law ["script"] (defScope s_law) := ⟨rfl, rfl, rfl, by decide +kernel, rfl, by decide +kernel, by decide +kernel⟩
theorem sp_tup {H : Hp} {l : List Addr} {p1 p2 p3 t : Addr} {S : SpD} {ls : List V} (h1 : H p1 = some (.dK (rmK S.rooms))) (h2 : H p2 = some (.lst (S.homes.map V.str))) (h3 : H p3 = some (.lst ls)) (h4 : RpA K (off l H) ls (S.lanes.map lnD))
    (n1 : p1 ∉ l) (n2 : p2 ∉ l) (n3 : p3 ∉ l) (nt : t ∉ l) (ht : H t = none) : Rp K (off l (upd H t (.tup [.ref p1, .ref p2, .ref p3]))) (.ref t) (spD S) := by
  have kk : Kp [] [] H (upd H t (.tup [.ref p1, .ref p2, .ref p3])) := Kp.new ht
  exact .tup (SqT.of (off_some nt upd_same)) (.cons (.dct (off_some n1 (kk.dK (by simp) h1)) (rpD_rm _)) (.cons (.lst (off_some n2 (kk.lst (by simp) h2)) (rpA_strs _)) (.cons (.lst (off_some n3 (kk.lst (by simp) h3)) (h4.ke (kk.mono (l' := l) (by simp)).ke)) .nil)))
/-- all of l is there -/
theorem StrAt.th {b : Nat} {st sc : Addr} {H : Hp} (h : StrAt b st sc H) : Th [st, sc] H := fun z hz => by
  obtain ⟨⟨_, e1⟩, ⟨_, e2⟩⟩ := h.some
  rcases List.mem_cons.mp hz with rfl | hz
  · rw [e1]; simp
  · cases List.mem_singleton.mp hz
    rw [e2]; simp
def sp_law (K : PySem.W.Frag) (T : List NTab) : Sp := fun vs H Q _ => ∃ (a : Addr) (ns : List Int), vs = [.ref a] ∧ TabsN T H ∧ SqL K H a (ns.map V.int) ∧ ∀ H', Q (.bl true) H'
def pts3 : Nat → SpD
  | 0 => ⟨[], [], []⟩
  | 1 => ⟨[], ["k", "h"], []⟩
  | _ => ⟨[("zz", 19), ("a", 1)], [], [("zz", "a", 999999)]⟩
theorem pts3_ok : ∀ i, i < 3 → OkSp (pts3 i).rooms (pts3 i).homes (pts3 i).lanes ∧ SmS (pts3 i) ∧ Sh5 (pts3 i) ∧ LeS (pts3 i) 2000 := fun i hi => by
  match i, hi with
  | 0, _ =>
    exact ⟨⟨(by simp [pts3]), (by simp [pts3]), (by simp [pts3]), (by simp [pts3]), (by simp [pts3]), (by simp [pts3]), by decide, by decide, by decide⟩, ⟨by simp [pts3], by simp [pts3]⟩, by unfold Sh5; simp [pts3], by decide, by decide, by decide⟩
  | 1, _ =>
    have h1 : nmS "k" = true := by decide +kernel
    have h2 : nmS "h" = true := by decide +kernel
    refine ⟨⟨(by simp [pts3]), (by simp [pts3]), (by simp [pts3, h1, h2]), (by unfold pts3; decide +kernel), (by simp [pts3]), (by simp [pts3]), by decide, by decide, by decide⟩, ⟨by simp [pts3], by simp [pts3]⟩, ?_, by decide, by decide, by decide⟩
    intro z hz
    simp [pts3] at hz
    rcases hz with rfl | rfl <;> decide +kernel
  | 2, _ =>
    have h1 : nmS "zz" = true := by decide +kernel
    have h2 : nmS "a" = true := by decide +kernel
    have h3 : ("a" : Str) ≠ "zz" := by decide +kernel
    refine ⟨⟨(by simp [pts3, h1, h2]), (by unfold pts3; decide +kernel), (by simp [pts3]), (by simp [pts3]), (by simp [pts3, h3]), (by simp [pts3]), by decide, by decide, by decide⟩, ⟨by simp [pts3], by simp [pts3]⟩, ?_, by decide, by decide, by decide⟩
    intro z hz
    simp [pts3] at hz
    rcases hz with rfl | rfl <;> decide +kernel
theorem d_law (B : Blt mg) (cs : ClsS K mg C) (ic : IsCls K C) (hne : PySem.W.findIn K (.ref C) "__ne__" = some (some (.builtin "object.__ne__"))) (hob : PySem.W.mroIn K C (.type "object") = some true)
    (G0 : DefOk P w K mg base 1 "_law_stream" (sp_stream K T)) (Gp : DefOk P w K mg base 2 "_law_pick" (sp_pick K T)) (Gsp : DefOk P w K mg base 4 "_law_space" (sp_space K T)) (Gm : DefOk P w K mg base 2 "_law_mixed" (sp_mixed K T))
    (Gd : DefOk P w K mg base 1 "_law_due" (sp_due K T)) (Gs : DefOk P w K mg base 6 "_law_same" (sp_same K T 6)) (Go : DefOk P w K mg base 6 "_law_others" (sp_others K T)) (Gr : DefOkG P w K mg base 9 "_law_made_right" (sp_made_right K T))
    (Mk : MkOk P w K mg base 6 "Space" C (sp_init K T C)) (Me : MetOk P w K mg base 1 C "__eq__" (sp_eq K C)) (F : TopFn K mg "law" s_law) : DefOkG P w K mg base 10 "law" (sp_law K T) := by
  refine F.okG sc_law (fun _ _ _ _ _ _ us hl => match us, hl with | [_], _ => rfl) (fun vs H Q E h => ?_) (fun f cdv A outer s H vs Q E hG hr h => ?_)
  · obtain ⟨a, ns, rfl, _⟩ := h
    rfl
  · obtain ⟨a, ns, rfl, hT, hS, k⟩ := h
    refine ⟨_, (pss_cons (ps_set (i := 1) sc_law.nd rfl (Or.inl rfl) (pe_d G0 hr (pa_cons (pv 0) pa_nil)))
      (pss_cons (ps_for PassesOwn.never rfl (pi_range1 rfl B.range (pa_cons pe_int pa_nil)) (pg_name (i := 2) sc_law.nd rfl (Or.inl rfl)) (pss_cons (ps_set (i := 3) sc_law.nd rfl (Or.inl rfl) (pe_d Gsp hr (pa_cons (pv 1) (pa_cons (pe_d Gp hr (pa_cons (pv 1) (pa_cons (pe_lst (pa_cons pe_int (pa_cons pe_int (pa_cons pe_int pa_nil)))) pa_nil))) (pa_cons pe_int pa_nil)))))
      (Evl.pss_cut (ps_if (pt_cmpR op_eq (pv 2) pe_int (nomark _)) (pss_one (ps_set (i := 3) sc_law.nd rfl (Or.inl rfl) (pe_d Gp hr (pa_cons (pv 1) (pa_cons (pe_lst (pa_cons (pe_tup (pa_cons pe_dnewK (pa_cons (pe_lst pa_nil) (pa_cons (pe_lst pa_nil) pa_nil)))) (pa_cons (pe_tup (pa_cons pe_dnewK (pa_cons (pe_lst (pa_cons pe_str (pa_cons pe_str pa_nil))) (pa_cons (pe_lst pa_nil) pa_nil)))) (pa_cons (pe_tup (pa_cons (pe_disp (pps_cons pe_str pe_int (pps_cons pe_str pe_int pps_nil)) (by rfl) (by rfl) (fun z => by cases z) (by decide)) (pa_cons (pe_lst pa_nil) (pa_cons (pe_lst (pa_cons (pe_tup (pa_cons pe_str (pa_cons pe_str (pa_cons (pe_op op_sub (pe_op op_pow pe_int pe_int) pe_int) pa_nil)))) pa_nil)) pa_nil)))) pa_nil)))) pa_nil))))) pss_nil)
      (pss_cons (ps_set (i := 4) sc_law.nd rfl (Or.inl rfl) (e_repr B hG hr.units (pa_cons (pv 3) pa_nil)))
      (pss_cons (ps_if (pt_not (pt_val (pe_dG Gr hG hr (pa_cons (pv 1) (pa_cons (pv 3) pa_nil))))) (pss_one (ps_ret pe_bl)) pss_nil)
      (pss_cons (ps_par (i := 5) (j := 6) rfl sc_law.nd rfl rfl (by decide) rfl rfl (pa_cons (pe_mk Mk hr (pa_cons (LiI.pe_listItems rfl (pe_ix ix_seq (pv 3) pe_int (fun _ _ => rfl)) (by rfl) B.list (by decide +kernel)) (pa_cons (e_list B (pa_cons (pe_ix ix_seq (pv 3) pe_int (fun _ _ => rfl)) pa_nil)) (pa_cons (e_list B (pa_cons (pe_ix ix_seq (pv 3) pe_int (fun _ _ => rfl)) pa_nil)) pa_nil)))) (pa_cons (pe_d Go hr (pa_cons (pv 1) (pa_cons (pv 3) pa_nil))) pa_nil)) rfl)
      (pss_cons (ps_for PassesOwn.never rfl (pi_seq (pe_d Gm hr (pa_cons (pv 1) (pa_cons (pe_op op_cat (pv 6) (pe_lst (pa_cons (pv 3) pa_nil))) pa_nil)))) (pg_name (i := 7) sc_law.nd rfl (Or.inl rfl)) (pss_cons (ps_set (i := 8) sc_law.nd rfl (Or.inl rfl) (pe_mk Mk hr (pa_cons (LiI.pe_listItems rfl (pe_ix ix_seq (pv 7) pe_int (fun _ _ => rfl)) (by rfl) B.list (by decide +kernel)) (pa_cons (e_list B (pa_cons (pe_ix ix_seq (pv 7) pe_int (fun _ _ => rfl)) pa_nil)) (pa_cons (e_list B (pa_cons (pe_ix ix_seq (pv 7) pe_int (fun _ _ => rfl)) pa_nil)) pa_nil)))))
      (pss_cons (ps_set (i := 9) sc_law.nd rfl (Or.inl rfl) (pe_cmpR (op_eqTold (by have := hr.un; show A.units + 3 + 70 < _; have h2 : (A.deeper (envOfC "law" (defScope s_law) s.heap.objs.size f cdv)).units = A.units + 3 := rfl; omega)) (pe_d Gd hr (pa_cons (pv 7) pa_nil)) (pe_d Gd hr (pa_cons (pv 3) pa_nil)) (nomark _)))
      (pss_one (ps_if (pt_not (pt_val (pe_d Gs hr (pa_cons (pe_lst (pa_cons (pe_cmpR (op_ownEq Me hr) (pv 5) (pv 8) (nomark _)) (pa_cons (pe_cmpR (op_ownEq Me hr) (pv 8) (pv 5) (nomark _)) (pa_cons (pe_cmpR (op_ownNe Me hne hob hr) (pv 5) (pv 8) (nomark _)) pa_nil)))) (pa_cons (pe_lst (pa_cons (pv 9) (pa_cons (pv 9) (pa_cons (pe_not (pv 9)) pa_nil)))) pa_nil))))) (pss_one (ps_ret pe_bl)) pss_nil)))))
      (pss_one (ps_if (pt_cmpR op_ne (e_repr B hG hr.units (pa_cons (pv 3) pa_nil)) (pv 4) (nomark _)) (pss_one (ps_ret pe_bl)) pss_nil)))))))))
      (pss_one (ps_ret pe_bl)))), ?_⟩
    refine ⟨_, rfl, a, ns, rfl, hS, fun st sc H1 hst hsc k1 S1 => ?_⟩
    have hT1 := k1.t hT
    refine rd_next ?_
    dsimp only
    refine rd_seq ?_
    refine ⟨_, rfl, by decide, by decide, ?_⟩
    refine for_range (lo := 0) (n := 6) (fun i σ H' => (∃ x2 x3 x4 x5 x6 x7 x8 x9, σ = [some (.ref a), some (.ref st), x2, x3, x4, x5, x6, x7, x8, x9]) ∧ TabsN T H' ∧ StrAt (30000 * i) st sc H')
      ⟨⟨_, _, _, _, _, _, _, _, rfl⟩, hT1, S1⟩ ?_ ?_
    · rintro i σ H2 hi ⟨⟨x2, x3, x4, x5, x6, x7, x8, x9, rfl⟩, hT2, S2⟩
      have hib : 30000 * i ≤ 150000 := by omega
      have hi6 : i < 6 := hi
      -- space = _law_space(stream, _law_pick(stream, [1, 3, 8]), 1)
      refine ⟨_, rfl, _, rfl, by show 3 ≤ sizeLine; decide, fun q hq => ?_⟩
      have S3 : StrAt (30000 * i) st sc (upd H2 q (.lst [.int 1, .int 3, .int 8])) := S2.kp (Kp.new (T := T) (l := []) hq) (by simp) (by simp)
      have nq1 : q ≠ st := none_ne S2.some.1.choose_spec hq
      have nq2 : q ≠ sc := none_ne S2.some.2.choose_spec hq
      refine ⟨st, sc, .ref q, 30000 * i, 3, fun j => .int (([1, 3, 8] : List Int).getD j 0), rfl, S3, by omega, itemI (ns := [1, 3, 8]) (SqL.of (off_some (by simp [nq1, nq2]) upd_same)), by decide, by decide, fun j H4 hj k4 S4 => ?_⟩
      obtain ⟨m, em, hm1, hm2⟩ : ∃ m : Nat, ([1, 3, 8] : List Int).getD j 0 = (m : Int) ∧ 1 ≤ m ∧ m ≤ 8 := by
        match j, hj with
        | 0, _ => exact ⟨1, rfl, by decide, by decide⟩
        | 1, _ => exact ⟨3, rfl, by decide, by decide⟩
        | 2, _ => exact ⟨8, rfl, by decide, by decide⟩
      have hL4 : Hid [st, sc] st sc H4 := ⟨by simp, by simp, fun z hz => by
        obtain ⟨⟨_, e1⟩, ⟨_, e2⟩⟩ := S4.some
        rcases List.mem_cons.mp hz with rfl | hz
        · rw [e1]; simp
        · cases List.mem_singleton.mp hz
          rw [e2]; simp⟩
      refine ⟨st, sc, [st, sc], m, 1, 30000 * i + 1, by show [V.ref st, V.int (([1, 3, 8] : List Int).getD j 0), V.int 1] = _; rw [em]; rfl, S4, hL4, hm1, by omega, by decide, by decide, by unfold spc; omega, fun v S H5 k5 hx5 ok5 l1 l2 l3 b1 b2 sh5 S5 => ?_⟩
      have kT5 : Kp T [st, sc] H2 H5 := ((Kp.new hq).trans k4).trans k5
      have hT5 := kT5.t hT2
      have hS5 : StrAt (30000 * i + 600) st sc H5 := S5.mono (by unfold spc; omega)
      have G5 : GdS K st sc H5 v S := ⟨hx5, ok5, ⟨fun p hp => by have := b1 p hp; omega, fun p hp => by have := b2 p hp; omega⟩, sh5, ⟨by omega, by omega, by omega⟩⟩
      clear k4 k5 hx5 ok5 l1 l2 l3 b1 b2 sh5 S5 S4 S3 S2 hL4 nq1 nq2 hq kT5 hT2
      refine rd_next ?_
      dsimp only
      -- if turn == 5
      refine ⟨fun σ H' => ∃ v S, σ = [some (.ref a), some (.ref st), some (.int (0 + (i : Int))), some v, x4, x5, x6, x7, x8, x9] ∧ TabsN T H' ∧ StrAt (30000 * i + 601) st sc H' ∧ GdS K st sc H' v S, ?_, ?_⟩
      · refine ⟨_, rfl, rfl, _, rfl, ite2 (fun _ => ?_) (fun _ => ⟨v, S, rfl, hT5, hS5.mono (by omega), G5⟩)⟩
        refine ⟨_, rfl, ?_⟩
        have t5 := hS5.th (st := st) (sc := sc)
        -- ({}, [], [])
        intro d0 hd0
        have u0 := t5.new hd0
        have k0 : Kp T [] H5 (upd H5 d0 (.dK [])) := Kp.new hd0
        have e0 : (upd H5 d0 (.dK [])) d0 = some (.dK []) := upd_same
        show (tCons _ _) _ (upd H5 d0 (.dK [])) _
        generalize upd H5 d0 (.dK []) = I0 at k0 e0 ⊢
        refine ⟨Nat.zero_le _, fun p1 hp1 => ?_⟩
        have t0 := t5.kp k0
        have u1 := t0.new hp1
        have k1 : Kp T [] I0 (upd I0 p1 (.lst [])) := Kp.new hp1
        have e1 : (upd I0 p1 (.lst [])) p1 = some (.lst []) := upd_same
        generalize upd I0 p1 (.lst []) = I1 at k1 e1 ⊢
        refine ⟨Nat.zero_le _, fun p2 hp2 => ⟨by show 3 ≤ sizeLine; decide, fun q0 hq0 => ?_⟩⟩
        have t1 := t0.kp k1
        have u2 := t1.new hp2
        have k2 : Kp T [] I1 (upd I1 p2 (.lst [])) := Kp.new hp2
        have e2 : (upd I1 p2 (.lst [])) p2 = some (.lst []) := upd_same
        generalize upd I1 p2 (.lst []) = I2 at k2 e2 hq0 ⊢
        have t2 := t1.kp k2
        have r0 : Rp K (off [st, sc] (upd I2 q0 (.tup [.ref d0, .ref p1, .ref p2]))) (.ref q0) (spD (pts3 0)) := sp_tup (S := pts3 0) ((k1.trans k2).dK (by simp) e0) (k2.lst (by simp) e1) e2 .nil u0 u1 u2 (t2.new hq0) hq0
        have kq : Kp T [] H5 (upd I2 q0 (.tup [.ref d0, .ref p1, .ref p2])) := ((k0.trans k1).trans k2).trans (Kp.new hq0)
        generalize upd I2 q0 (.tup [.ref d0, .ref p1, .ref p2]) = J at r0 kq ⊢
        clear k0 k1 k2 e0 e1 e2 t0 t1 t2 u0 u1 u2 hd0 hp1 hp2 hq0
        -- ({}, ["k", "h"], [])
        intro d0 hd0
        have tJ := t5.kp kq
        have u0 := tJ.new hd0
        have k0 : Kp T [] J (upd J d0 (.dK [])) := Kp.new hd0
        have e0 : (upd J d0 (.dK [])) d0 = some (.dK []) := upd_same
        show (tCons _ _) _ (upd J d0 (.dK [])) _
        generalize upd J d0 (.dK []) = I0 at k0 e0 ⊢
        refine ⟨by show 2 ≤ sizeLine; decide, fun p1 hp1 => ?_⟩
        have t0 := tJ.kp k0
        have u1 := t0.new hp1
        have k1 : Kp T [] I0 (upd I0 p1 (.lst [.str "k", .str "h"])) := Kp.new hp1
        have e1 : (upd I0 p1 (.lst [.str "k", .str "h"])) p1 = some (.lst [.str "k", .str "h"]) := upd_same
        generalize upd I0 p1 (.lst [.str "k", .str "h"]) = I1 at k1 e1 ⊢
        refine ⟨Nat.zero_le _, fun p2 hp2 => ⟨by show 3 ≤ sizeLine; decide, fun q1 hq1 => ?_⟩⟩
        have t1 := t0.kp k1
        have u2 := t1.new hp2
        have k2 : Kp T [] I1 (upd I1 p2 (.lst [])) := Kp.new hp2
        have e2 : (upd I1 p2 (.lst [])) p2 = some (.lst []) := upd_same
        generalize upd I1 p2 (.lst []) = I2 at k2 e2 hq1 ⊢
        have t2 := t1.kp k2
        have r1 : Rp K (off [st, sc] (upd I2 q1 (.tup [.ref d0, .ref p1, .ref p2]))) (.ref q1) (spD (pts3 1)) := sp_tup (S := pts3 1) ((k1.trans k2).dK (by simp) e0) (k2.lst (by simp) e1) e2 .nil u0 u1 u2 (t2.new hq1) hq1
        have kJ : Kp T [] J (upd I2 q1 (.tup [.ref d0, .ref p1, .ref p2])) := ((k0.trans k1).trans k2).trans (Kp.new hq1)
        generalize upd I2 q1 (.tup [.ref d0, .ref p1, .ref p2]) = L at r1 kJ ⊢
        clear k0 k1 k2 e0 e1 e2 t0 t1 t2 u0 u1 u2 hd0 hp1 hp2 hq1
        have r0 := r0.ke (kJ.mono (l' := [st, sc]) (by simp)).ke
        have kL := kq.trans kJ
        have tL := t5.kp kL
        clear kq kJ tJ
        -- ({"zz": 19, "a": 1}, [], [("zz", "a", 10 ** 6 - 1)])
        intro d0 hd0
        have u0 := tL.new hd0
        refine ⟨upd_same, [(Sum.inr "zz", .int 19), (Sum.inr "a", .int 1)], rfl, by decide, ?_⟩
        rw [mergeK_nd (by simp; decide +kernel)]
        have k0 : Kp T [] L (upd (upd L d0 (.dK [])) d0 (.dK [(Sum.inr "zz", .int 19), (Sum.inr "a", .int 1)])) := ((Kp.new hd0 : Kp T [] L (upd L d0 (.dK []))).mono (l' := [d0]) (by simp) |>.trans (Kp.updD (by simp) upd_same)).drop hd0
        have e0 : (upd (upd L d0 (.dK [])) d0 (.dK [(Sum.inr "zz", .int 19), (Sum.inr "a", .int 1)])) d0 = some (.dK [(Sum.inr "zz", .int 19), (Sum.inr "a", .int 1)]) := upd_same
        generalize (upd (upd L d0 (.dK [])) d0 (.dK [(Sum.inr "zz", .int 19), (Sum.inr "a", .int 1)])) = I0 at k0 e0 ⊢
        refine ⟨Nat.zero_le _, fun p1 hp1 => ?_⟩
        have t0 := tL.kp k0
        have u1 := t0.new hp1
        have k1 : Kp T [] I0 (upd I0 p1 (.lst [])) := Kp.new hp1
        have e1 : (upd I0 p1 (.lst [])) p1 = some (.lst []) := upd_same
        generalize upd I0 p1 (.lst []) = I1 at k1 e1 ⊢
        refine ⟨_, _, rfl, rfl, ⟨by decide, by decide, by decide⟩, _, _, rfl, rfl, by show 3 ≤ sizeLine; decide, fun z hz => ⟨by show 1 ≤ sizeLine; decide, fun p2 hp2 => ⟨by show 3 ≤ sizeLine; decide, fun q2 hq2 => ?_⟩⟩⟩
        have t1 := t0.kp k1
        have uz := t1.new hz
        have k2 : Kp T [] I1 (upd I1 z (.tup [.str "zz", .str "a", .int (10 ^ (6 : Int).toNat - 1)])) := Kp.new hz
        have e2 : (upd I1 z (.tup [.str "zz", .str "a", .int (10 ^ (6 : Int).toNat - 1)])) z = some (.tup [.str "zz", .str "a", .int 999999]) := upd_same
        have hp2 : (upd I1 z (.tup [.str "zz", .str "a", .int (10 ^ (6 : Int).toNat - 1)])) p2 = none := hp2
        have hq2 : (upd (upd I1 z (.tup [.str "zz", .str "a", .int (10 ^ (6 : Int).toNat - 1)])) p2 (.lst [.ref z])) q2 = none := hq2
        show _ ≤ _ ∧ _
        generalize upd I1 z (.tup [.str "zz", .str "a", .int (10 ^ (6 : Int).toNat - 1)]) = I2 at k2 e2 hp2 hq2 ⊢
        have t2 := t1.kp k2
        have u2 := t2.new hp2
        have k3 : Kp T [] I2 (upd I2 p2 (.lst [.ref z])) := Kp.new hp2
        have e3 : (upd I2 p2 (.lst [.ref z])) p2 = some (.lst [.ref z]) := upd_same
        have e2' := k3.tup (by simp) e2
        generalize upd I2 p2 (.lst [.ref z]) = I3 at k3 e3 e2' hq2 ⊢
        have t3 := t2.kp k3
        have rz : RpA K (off [st, sc] I3) [.ref z] ((pts3 2).lanes.map lnD) := .cons (.tup (SqT.of (off_some uz e2')) (.cons (.str _) (.cons (.str _) (.cons (.int _) .nil)))) .nil
        have r2 : Rp K (off [st, sc] (upd I3 q2 (.tup [.ref d0, .ref p1, .ref p2]))) (.ref q2) (spD (pts3 2)) := sp_tup (S := pts3 2) (((k1.trans k2).trans k3).dK (by simp) e0) ((k2.trans k3).lst (by simp) e1) e3 rz u0 u1 u2 (t3.new hq2) hq2
        have kL2 : Kp T [] L (upd I3 q2 (.tup [.ref d0, .ref p1, .ref p2])) := (((k0.trans k1).trans k2).trans k3).trans (Kp.new hq2)
        refine ⟨by show 3 ≤ sizeLine; decide, fun LL hLL => ?_⟩
        have hLL : (upd I3 q2 (.tup [.ref d0, .ref p1, .ref p2])) LL = none := hLL
        generalize upd I3 q2 (.tup [.ref d0, .ref p1, .ref p2]) = M at r2 kL2 hLL ⊢
        clear k0 k1 k2 k3 e0 e1 e2 e3 e2' t0 t1 t2 t3 u0 u1 u2 uz hd0 hp1 hp2 hq2 hz rz
        have kM : Kp T [] M (upd M LL (.lst [.ref q0, .ref q1, .ref q2])) := Kp.new hLL
        have eM : (upd M LL (.lst [.ref q0, .ref q1, .ref q2])) LL = some (.lst [.ref q0, .ref q1, .ref q2]) := upd_same
        have uM := (tL.kp kL2).new hLL
        generalize upd M LL (.lst [.ref q0, .ref q1, .ref q2]) = N at kM eM ⊢
        have kLN := kL2.trans kM
        have kN := kL.trans kLN
        have hr0 := r0.ke (kLN.mono (l' := [st, sc]) (by simp)).ke
        have hr1 := r1.ke (kLN.mono (l' := [st, sc]) (by simp)).ke
        have hr2 := r2.ke (kM.mono (l' := [st, sc]) (by simp)).ke
        have SN := hS5.kp kN (by simp) (by simp)
        refine ⟨st, sc, .ref LL, 30000 * i + 600, 3, fun j => ([.ref q0, .ref q1, .ref q2] : List V).getD j .non, rfl, SN, by omega, .inl ⟨LL, _, rfl, .inl (SqL.of (off_some uM eM)), rfl, fun j v e => by show ([.ref q0, .ref q1, .ref q2] : List V).getD j .non = v; rw [List.getD_eq_getElem?_getD, e]; rfl⟩, by decide, by decide, fun j H6 hj k6 S6 => ?_⟩
        refine ⟨([.ref q0, .ref q1, .ref q2] : List V).getD j .non, pts3 j, rfl, (k6.t (kN.t hT5)), S6, ?_⟩
        obtain ⟨o1, o2, o3, o4⟩ := pts3_ok j hj
        refine ⟨?_, o1, o2, o3, o4⟩
        match j, hj with
        | 0, _ => exact hr0.ke k6.ke
        | 1, _ => exact hr1.ke k6.ke
        | 2, _ => exact hr2.ke k6.ke
      · rintro σ H6 ⟨v, S, rfl, hT6, S6, G6⟩
        obtain ⟨hx6, ok6, sm6, sh6, le6⟩ := G6
        obtain ⟨g1, g2, g3⟩ := space_sht ok6 sm6 le6 (by decide)
        -- kept = repr(space)
        refine rd_seq ?_
        refine ⟨_, rfl, v, _, rfl, hx6.ke Ke.off, .inr ⟨_, rfl⟩, g1, g2, g3, ?_⟩
        refine rd_next ?_
        dsimp only
        refine rd_seq ?_
        refine ⟨_, rfl, _, rfl, st, sc, v, S, 30000 * i + 601, 2000, rfl, hT6, S6, hx6, ok6, sm6, le6, by decide, by omega, fun H7 k7 S7 => ⟨_, rfl, iteF ?_⟩⟩
        have hx7 := hx6.ke k7.ke
        have hT7 := k7.t hT6
        refine rd_next ?_
        dsimp only
        refine rd_seq ?_
        refine rd_par (rd_cons (mk3_rd (i := 3) (l := [st, sc]) (S := S) (v := v) rfl hx7 hT7 ok6 fun x H8 k8 sp8 => ?_))
        have ld7 : LD [st, sc] H7 := fun z hz => by
          rcases List.mem_cons.mp hz with rfl | hz
          · exact .inl S7.some.1
          · cases List.mem_singleton.mp hz
            exact .inl S7.some.2
        have sx8 := sp8 [st, sc] ld7
        have S8 := S7.kp k8 (by simp) (by simp)
        have hx8 := hx7.ke (k8.mono (l' := [st, sc]) (by simp)).ke
        have hT8 := k8.t hT7
        have hL8 : Hid [st, sc] st sc H8 := ⟨by simp, by simp, S8.th⟩
        refine ⟨_, rfl, _, rfl, st, sc, [st, sc], v, S, _, 2000, rfl, S8, hL8, hx8, ok6, sh6, le6, by decide, by omega, fun v' Ss H9 k9 ro okO lO S9 => ⟨_, _, rfl, ?_⟩⟩
        have sx9 := sx8.ke k9.ke
        have hx9 := hx8.ke k9.ke
        have hT9 := k9.t hT8
        clear k7 k8 k9 S7 S8 S6 hx6 hx7 hx8 hT6 hT7 hT8 sp8 ld7 sx8 hL8
        refine rd_next ?_
        dsimp only
        refine rd_seq ?_
        obtain ⟨ao, xo, rfl, ho, hoA⟩ := ro.ref_list
        have lo := hoA.length
        rw [List.length_map] at lo
        have ho9 := (of_off ho).2
        refine ⟨_, rfl, _, rfl, _, rfl, by show 1 ≤ sizeLine; decide, fun q1 hq1 => ⟨ao, q1, xo, [v], rfl, rfl, by rw [upd_ne (ne_of_none ho9 hq1)]; exact ho9, upd_same, Nat.le_trans (by show xo.length + 1 ≤ 21; omega) (by decide), fun q2 hq2 => ?_⟩⟩
        have k10 : Kp T [] H9 (upd (upd H9 q1 (.lst [v])) q2 (.lst (xo ++ [v]))) := (Kp.new hq1).trans (Kp.new hq2)
        have e10 : (upd (upd H9 q1 (.lst [v])) q2 (.lst (xo ++ [v]))) q2 = some (.lst (xo ++ [v])) := upd_same
        have u10 : q2 ∉ [st, sc] := S9.th.new (k10.n q2 |> fun h => by
          cases e : H9 q2 with
          | none => rfl
          | some o => rw [upd_ne (fun z => by rw [z, hq1] at e; cases e)] at hq2; rw [e] at hq2; cases hq2)
        generalize (upd (upd H9 q1 (.lst [v])) q2 (.lst (xo ++ [v]))) = H10 at k10 e10 ⊢
        have S10 := S9.kp k10 (by simp) (by simp)
        have hA10 : RpA K (off [st, sc] H10) (xo ++ [v]) ((Ss ++ [S]).map spD) := by
          rw [List.map_append]
          exact (hoA.snoc hx9).ke (k10.mono (l' := [st, sc]) (by simp)).ke
        have ok10 : ∀ S' ∈ Ss ++ [S], OkSp S'.rooms S'.homes S'.lanes := fun S' h => by
          rcases List.mem_append.mp h with h | h
          · exact okO S' h
          · cases List.mem_singleton.mp h
            exact ok6
        refine ⟨st, sc, q2, _, xo ++ [v], rfl, S10, .inl (SqL.of (off_some u10 e10)), ?_, ?_, fun p1 ys H11 hp1 perm k11 hp1' np1 np2 S11 => ?_⟩
        · rw [List.length_append]
          show _ + (xo.length + 1) < _
          omega
        · rw [List.length_append]
          show xo.length + 1 ≤ _
          omega
        have hlen : (xo ++ [v]).length ≤ 21 := by
          rw [List.length_append]
          show xo.length + 1 ≤ _
          omega
        obtain ⟨es, pe, hes⟩ := rpA_perm perm (hA10.ke k11.ke)
        obtain ⟨Ts, pT, rfl⟩ := perm_map_inv pe rfl
        have okT : ∀ S' ∈ Ts, OkSp S'.rooms S'.homes S'.lanes := fun S' h => ok10 S' (pT.mem_iff.mp h)
        have k911 : Kp T [st, sc] H9 H11 := (k10.mono (by simp)).trans k11
        have sx11 := sx9.ke k911.ke
        have hx11 := hx9.ke k911.ke
        have hT11 := k911.t hT9
        have tx := due_tx ok6
        have ndS := due_nd ok6.nd
        have S11 : StrAt (30000 * i + 601 + 12003 + 6020 + 30) st sc H11 := S11.mono (by omega)
        clear hA10 ok10 pe perm k10 k11 k911 e10 u10 hq1 hq2 hoA ho ho9 lo sx9 hx9 hT9 S9 S10 okO pT
        refine ⟨p1, ys, true, rfl, SqL.of hp1', fun J Gj hsz W hG => ?_⟩
        refine for_it W (fun j σ H' => (∃ x7 x8 x9, σ = [some (.ref a), some (.ref st), some (.int (0 + (i : Int))), some v, some (.str (spD S).shown), some (.ref x), some (.ref ao), x7, x8, x9]) ∧ Kp T [] H11 H') ⟨⟨_, _, _, rfl⟩, Kp.refl⟩ (fun j σ H' _ p => hG H' (SqL.of (p.2.lst (by simp) hp1'))) (fun j z σ H' H'' hj p zz => ?_) fun σ H' p => ?_
        · obtain ⟨⟨y7, y8, y9, rfl⟩, kp'⟩ := p
          obtain ⟨rfl, ez⟩ := zz
          obtain ⟨dz, edz, rz⟩ := hes.get ez
          rw [List.getElem?_map] at edz
          obtain ⟨S', eS', rfl⟩ := Option.map_eq_some_iff.mp edz
          have ok' := okT S' (List.mem_of_getElem? eS')
          have e12 := (kp'.mono (l' := [st, sc]) (by simp)).ke
          have S12 := S11.kp kp' (by simp) (by simp)
          refine rd_seq ?_
          refine mk3_rd (i := 7) (l := [st, sc]) (S := S') (v := z) rfl (rz.ke e12) (kp'.t hT11) ok' fun y H13 k13 sp13 => ?_
          have sy13 := sp13 [] (fun _ z => by cases z)
          have e13 := (k13.mono (l' := [st, sc]) (by simp)).ke
          have S13 := S12.kp k13 (by simp) (by simp)
          refine rd_next ?_
          dsimp only
          refine rd_seq ?_
          have hz13 := (rz.ke e12).ke e13
          have hx13 := (hx11.ke e12).ke e13
          refine ⟨_, rfl, [st, sc], z, S', rfl, hz13, S13.th, ok'.nd, ⟨ok'.rz, ok'.hz, ok'.lz⟩, fun v1 as1 H14 k14 r1 o1 n1 => ?_⟩
          have e14 := (k14.mono (l' := [st, sc]) (by simp)).ke
          have S14 := S13.kp k14 (by simp) (by simp)
          refine ⟨_, rfl, [st, sc], v, S, rfl, hx13.ke e14, S14.th, ok6.nd, ⟨ok6.rz, ok6.hz, ok6.lz⟩, fun v2 as2 H15 k15 r2 o2 n2 => ?_⟩
          refine ⟨dueS S', dueS S, (r1.ke (k15.mono (l' := [st, sc]) (by simp)).ke).ke Ke.off, r2.ke Ke.off, due_tx ok', tx, due_nd ok'.nd, ?_⟩
          have k1315 := k14.trans k15
          have k1115 := (kp'.trans k13).trans k1315
          have sx15 := ((sx11.ke (k1115.mono (l' := [st, sc]) (by simp)).ke).sp3).ke Ke.off
          have sy15 := ((sy13.ke Ke.off).ke k1315.ke0).sp3
          have hcm := spEqB_comm ndS (due_nd ok'.nd)
          clear sy13 sp13 hz13 hx13 r1 r2 o1 o2 n1 n2 k14 k15 k13 S12 S13 S14 e12 e13 e14 rz ez eS'
          refine rd_next ?_
          dsimp only
          refine ⟨_, rfl, _, rfl, rOwnEq_of sx15 tx sy15 (due_tx ok') ⟨_, rfl, _, rfl, rOwnEq_of sy15 (due_tx ok') sx15 tx ⟨_, rfl, _, rfl, rOwnNe_of sx15 tx sy15 (due_tx ok') ?_⟩⟩⟩
          rw [hcm]
          generalize spEqB (dueS S') (dueS S) = bb
          refine ⟨by show 3 ≤ sizeLine; decide, fun A1 hA1 => ⟨_, rfl, _, rfl, _, rfl, bb, rfl, by show 3 ≤ sizeLine; decide, fun A2 hA2 => ?_⟩⟩
          have qq := rpA_bls (K := K) (H := upd (upd H15 A1 (.lst [.bl bb, .bl bb, .bl (!bb)])) A2 (.lst [.bl bb, .bl bb, .bl (!bb)])) [bb, bb, !bb]
          refine ⟨.ref A1, .ref A2, .list ([bb, bb, !bb].map .bool), rfl, .lst (by rw [upd_ne (ne_of_none upd_same hA2)]; exact upd_same) qq, .lst upd_same qq, by simp [lv, lvA], fun H16 k16 => ⟨_, rfl, iteF ?_⟩⟩
          exact ⟨⟨_, _, _, rfl⟩, k1115.trans (((Kp.new hA1).trans (Kp.new hA2)).trans k16)⟩
        · obtain ⟨⟨y7, y8, y9, rfl⟩, kp'⟩ := p
          have hx' := (hx11.ke (kp'.mono (l' := [st, sc]) (by simp)).ke).ke Ke.off
          refine ⟨_, rfl, v, _, rfl, hx', .inr ⟨_, rfl⟩, g1, g2, g3, _, rfl, rfl, _, rfl, iteNS rfl ?_⟩
          exact ⟨⟨_, _, _, _, _, _, _, _, rfl⟩, kp'.t hT11, (S11.kp kp' (by simp) (by simp)).mono (by omega)⟩
    · rintro σ H2 ⟨⟨x2, x3, x4, x5, x6, x7, x8, x9, rfl⟩, hT2, S2⟩
      exact k H2
end
end Sky
set_option Elab.async false
set_option linter.all false
set_option maxRecDepth 100000
set_option maxHeartbeats 1000000
/-! Sky Pb: dicts, sorted things, comprehensions that compute data. -/
namespace Sky
open PySem PySem.Spec PyProof.Rows L2 LamX NdefX
section
variable {K : PySem.W.Frag} {T : List NTab} {l : List Addr} {te ta tb tc td : TE} {tl : TA} {tt tu : L2.TT} {σ : L2.St} {H H' : Hp} {d e : PyData} {ds es : List PyData} {b c : Bool} {α : Type} {enc : α → PyData} {r : List (Str × α)} {n : Str}
theorem Rp.dV_inv {v : V} (h : Rp K H v (dV enc r)) : ∃ a xs, v = .ref a ∧ H a = some (.dK xs) ∧ RpD K H xs (r.map fun p => (.str p.1, enc p.2)) := by
  unfold dV at h
  cases h with
  | dct h1 h2 => exact ⟨_, _, rfl, h1, h2⟩
theorem pu_dget {a : α} (hd : PuE K T l td σ H (dV enc r)) (hk : PuE K T l ta σ H (.str n)) (e : sget r n = some a) : PuE K T l (tDGet td ta) σ H (enc a) := fun H1 k1 Q q =>
  hd H1 k1 _ fun v H2 k2 r2 => hk H2 (k1.trans k2) _ fun u H3 k3 s => by
    obtain ⟨a, xs, rfl, e1, rd⟩ := r2.dV_inv
    have q1 := rpD_get rd n
    rw [e] at q1
    obtain ⟨v, ev, rv⟩ := q1
    have q2 := DGet.k (k := Sum.inr n) (k3.dK (by simp) (of_off e1).2)
    rw [ev] at q2
    rw [s.str_inv]
    exact ⟨a, v, rfl, q2, q v H3 (k2.trans k3) (rv.kp k3)⟩
theorem sget_mem : (sget r n).isSome = decide (n ∈ r.map (·.1)) := by
  induction r with
  | nil => rfl
  | cons p t ih =>
    unfold sget at ih ⊢
    rw [List.find?_cons]
    by_cases h : p.1 = n
    · rw [decide_eq_true h]
      symm
      exact decide_eq_true (by rw [List.map_cons, h]; exact List.mem_cons_self ..)
    · rw [decide_eq_false h]
      refine ih.trans ?_
      rw [Bool.eq_iff_iff]
      simp [Ne.symm h]
theorem get_sget {a : Addr} {xs : List (Key × V)} (e1 : H a = some (.dK xs)) (rd : RpD K H' xs (r.map fun p => (.str p.1, enc p.2))) : ∃ o, DGet H a (.str n) o ∧ o.isSome = decide (n ∈ r.map (·.1)) := by
  have q1 := rpD_get rd n
  have q2 := DGet.k (k := Sum.inr n) e1
  refine ⟨_, q2, ?_⟩
  rw [← sget_mem]
  cases z : sget r n with
  | none => rw [z] at q1; rw [show valV xs (Sum.inr n) = none from q1]; rfl
  | some y =>
    rw [z] at q1
    obtain ⟨v, ev, _⟩ := q1
    rw [ev]
    rfl
theorem pu_din (hk : PuE K T l ta σ H (.str n)) (hd : PuE K T l td σ H (dV enc r)) : PuE K T l (tDIn ta td) σ H (.bool (decide (n ∈ r.map (·.1)))) := fun H1 k1 Q q =>
  hk H1 k1 _ fun u H2 k2 s => hd H2 (k1.trans k2) _ fun v H3 k3 r2 => by
    obtain ⟨a, xs, rfl, e1, rd⟩ := r2.dV_inv
    obtain ⟨o, h1, h2⟩ := get_sget (n := n) (of_off e1).2 rd
    rw [s.str_inv]
    exact ⟨a, o, rfl, h1, by rw [h2]; exact q _ H3 (k2.trans k3) (.bl _)⟩
theorem pu_dnotin (hk : PuE K T l ta σ H (.str n)) (hd : PuE K T l td σ H (dV enc r)) : PuE K T l (tDNotIn ta td) σ H (.bool (!decide (n ∈ r.map (·.1)))) := fun H1 k1 Q q =>
  hk H1 k1 _ fun u H2 k2 s => hd H2 (k1.trans k2) _ fun v H3 k3 r2 => by
    obtain ⟨a, xs, rfl, e1, rd⟩ := r2.dV_inv
    obtain ⟨o, h1, h2⟩ := get_sget (n := n) (of_off e1).2 rd
    rw [s.str_inv]
    exact ⟨a, o, rfl, h1, by rw [h2]; exact q _ H3 (k2.trans k3) (.bl _)⟩
theorem rpA_strI {K : PySem.W.Frag} {H : Hp} : ∀ {vs : List V} {zs : List Str}, RpA K H vs (zs.map PyData.str) → vs = zs.map V.str
  | _, [], h => by cases h; rfl
  | _, z :: r, h => by
    rw [List.map_cons] at h
    cases h with
    | cons h1 h2 => rw [h1.str_inv, rpA_strI h2]; rfl
theorem flat_strs : ∀ zs : List Str, (zs.map V.str).all flatV = true
  | [] => rfl
  | z :: r => by rw [List.map_cons, List.all_cons, flat_strs r]; rfl
theorem eqV_strs (a b : Str) : eqV (.str a) (.str b) = decide (a = b) := by
  first | rfl | (unfold eqV; rw [Bool.eq_iff_iff]; simp)
theorem inV_strI (z : Str) : ∀ zs : List Str, inV (.str z) (zs.map V.str) = decide (z ∈ zs)
  | [] => rfl
  | y :: r => by
    have ih := inV_strI z r
    unfold inV at ih ⊢
    rw [List.map_cons, List.any_cons, ih, eqV_strs]
    rw [Bool.eq_iff_iff]
    simp
    constructor
    · rintro (h | h)
      · exact .inl h.symm
      · exact .inr h
    · rintro (h | h)
      · exact .inl h.symm
      · exact .inr h
theorem pu_inS {neg : Bool} {zs : List Str} {t : Bool} (hk : PuE K T l ta σ H (.str n)) (hd : PuE K T l td σ H (if t then .list (zs.map .str) else .tuple (zs.map .str))) : PuE K T l (tOp (rIn K neg) ta td) σ H (.bool (if neg then !decide (n ∈ zs) else decide (n ∈ zs))) := fun H1 k1 Q q =>
  hk H1 k1 _ fun u H2 k2 s => hd H2 (k1.trans k2) _ fun v H3 k3 r2 => by
    rw [s.str_inv]
    cases t with
    | true =>
      obtain ⟨a, xs, rfl, e1, rd⟩ := Rp.list_inv r2
      rw [rpA_strI rd] at e1
      exact ⟨a, _, rfl, .inl (SqL.of (of_off e1).2), rfl, flat_strs zs, by rw [inV_strI]; exact q _ H3 (k2.trans k3) (.bl _)⟩
    | false =>
      obtain ⟨a, xs, rfl, e1, rd⟩ := Rp.tup_inv r2
      rw [rpA_strI rd] at e1
      exact ⟨a, _, rfl, .inr (Ke.off.tq e1), rfl, flat_strs zs, by rw [inV_strI]; exact q _ H3 (k2.trans k3) (.bl _)⟩
theorem pu_items (hl : Th l H) (hd : PuE K T l td σ H (dV enc r)) : PuE K T l (LiI.tListItems td) σ H (.list (r.map fun p => .tuple [.str p.1, enc p.2])) := fun H1 k1 Q q =>
  hd H1 k1 _ fun v H2 k2 r2 => by
    obtain ⟨a, xs, rfl, e1, rd⟩ := r2.dV_inv
    refine ⟨a, xs, rfl, (of_off e1).2, fun H3 p ts kp hp hts hpt hpl hpp => q _ H3 (k2.trans (Kp.same kp)) ?_⟩
    have hl2 := hl.kp (k1.trans k2)
    have k3 : Kp T [] H2 H3 := Kp.same kp
    refine .lst (off_some (hl2.new hp) hpl) (rpA_itemsD (rd.ke (k3.mono (l' := l) (by simp)).ke) ?_)
    have tl : ∀ t ∈ ts, t ∉ l := fun t ht => hl2.new (hts t ht)
    clear hpl hpt hts rd e1
    revert tl
    induction hpp with
    | nil => intro _; exact .nil
    | cons h t ih => exact fun tl => .cons (off_some (tl _ (List.mem_cons_self ..)) h) (ih fun t ht => tl t (List.mem_cons_of_mem _ ht))
theorem pu_keys (hl : Th l H) (hd : PuE K T l td σ H (dV enc r)) : PuE K T l (tCB (rListX K) (tCons td tNil)) σ H (.list ((r.map (·.1)).map .str)) := fun H1 k1 Q q =>
  hd H1 k1 _ fun v H2 k2 r2 => by
    obtain ⟨a, xs, rfl, e1, rd⟩ := r2.dV_inv
    refine .inr ⟨a, xs, rfl, (of_off e1).2, fun p hp => q _ _ (k2.trans (Kp.new hp)) ?_⟩
    exact .lst (off_some ((hl.kp (k1.trans k2)).new hp) (by rw [upd_same, rpD_keys rd])) (rpA_strs _)
theorem pu_listL (hl : Th l H) {t : Bool} (hd : PuE K T l td σ H (if t then .list ds else .tuple ds)) : PuE K T l (tCB (rListX K) (tCons td tNil)) σ H (.list ds) := fun H1 k1 Q q =>
  hd H1 k1 _ fun v H2 k2 r2 => by
    cases t with
    | true =>
      obtain ⟨a, xs, rfl, e1, rd⟩ := Rp.list_inv r2
      exact .inl ⟨a, xs, rfl, .inl (SqL.of (of_off e1).2), fun p hp => q _ _ (k2.trans (Kp.new hp)) (.lst (off_some ((hl.kp (k1.trans k2)).new hp) upd_same) (rd.kp (T := T) (Kp.new hp)))⟩
    | false =>
      obtain ⟨a, xs, rfl, e1, rd⟩ := Rp.tup_inv r2
      exact .inl ⟨a, xs, rfl, .inr (Ke.off.tq e1), fun p hp => q _ _ (k2.trans (Kp.new hp)) (.lst (off_some ((hl.kp (k1.trans k2)).new hp) upd_same) (rd.kp (T := T) (Kp.new hp)))⟩
theorem pu_dict (hl : Th l H) (h : PuE K T l ta σ H (.list (r.map fun p => .tuple [.str p.1, enc p.2]))) : PuE K T l (tCB (rDictP K) (tCons ta tNil)) σ H (dV enc (mrg r)) := fun H1 k1 Q q =>
  h H1 k1 _ fun v H2 k2 r2 => by
    obtain ⟨a, xs, rfl, e1, rd⟩ := r2.list_inv
    obtain ⟨ps, kvs, rfl, h1, h2⟩ := rpA_pairs rd
    have h1' : Paired (fun p (kv : Key × V) => SqT K H2 p [kV kv.1, kv.2]) ps kvs := by
      clear h2 e1 rd
      induction h1 with
      | nil => exact .nil
      | cons h _ ih => exact .cons (Ke.off.tq h) ih
    refine ⟨a, ps, kvs, rfl, SqL.of (of_off e1).2, h1', fun p hp => q _ _ (k2.trans (Kp.new hp)) ?_⟩
    have k3 : Kp T [] H2 (upd H2 p (.dK (mergeK [] kvs))) := Kp.new hp
    exact .dct (off_some ((hl.kp (k1.trans k2)).new hp) upd_same) ((rpD_mrg h2).ke (k3.mono (l' := l) (by simp)).ke)
theorem pu_sortedK (hl : Th l H) (hd : PuE K T l td σ H (dV enc r)) : PuE K T l (tCB (rSortD K) (tCons td tNil)) σ H (.list ((srtBy PyData.str (r.map (·.1))).map .str)) := fun H1 k1 Q q =>
  hd H1 k1 _ fun v H2 k2 r2 => by
    obtain ⟨a, xs, rfl, e1, rd⟩ := r2.dV_inv
    have nm : ∀ ns : List Str, noDA (ns.map PyData.str) = true := fun ns => by
      induction ns with
      | nil => simp [noDA]
      | cons n t ih => simp [noDA, noD, ih]
    have q1 := rpA_srt (rpA_strs (K := K) (H := H2) (r.map (·.1)))
    rw [srtD_map] at q1
    refine ⟨a, _, (r.map (·.1)).map .str, rfl, .inr ⟨xs, (of_off e1).2, (rpD_keys rd).symm⟩, (rpA_strs _).dp (nm _), PySem.W.AllAlike.of (fun _ _ => by simp [PySem.W.alike]), PySem.W.Sortable.others (fun b => ⟨(fun z => by cases z), (fun _ z => by cases z)⟩), fun d hd => ?_, fun p hp => ?_⟩
    · obtain ⟨z, -, rfl⟩ := List.mem_map.mp hd
      simp [PyData.depth]
    · rw [rpA_strI q1]
      exact q _ _ (k2.trans (Kp.new hp)) (.lst (off_some ((hl.kp (k1.trans k2)).new hp) upd_same) (rpA_strs _))
theorem pu_sortedL {β : Type} {f : β → PyData} {bs : List β} {t : Bool} (hl : Th l H) (hd : PuE K T l td σ H (if t then .list (bs.map f) else .tuple (bs.map f))) (nd : noDA (bs.map f) = true) (al : PySem.W.AllAlike (bs.map f)) (so : PySem.W.Sortable (bs.map f)) (dp : ∀ d ∈ bs.map f, d.depth ≤ 60) :
    PuE K T l (tCB (rSortD K) (tCons td tNil)) σ H (.list ((srtBy f bs).map f)) := fun H1 k1 Q q =>
  hd H1 k1 _ fun v H2 k2 r2 => by
    have fin : ∀ {a : Addr} {xs : List V}, ((∃ t, SqB t K H2 a xs)) → RpA K (off l H2) xs (bs.map f) → rSortD K [.ref a] H2 Q := fun {a xs} hq rd => by
      have q1 := rpA_srt rd
      rw [srtD_map] at q1
      exact ⟨a, xs, bs.map f, rfl, .inl hq, (rd.ke Ke.off).dp nd, al, so, dp, fun p hp => q _ _ (k2.trans (Kp.new hp)) (.lst (off_some ((hl.kp (k1.trans k2)).new hp) upd_same) (q1.kp (T := T) (Kp.new hp)))⟩
    cases t with
    | true =>
      obtain ⟨a, xs, rfl, e1, rd⟩ := Rp.list_inv r2
      exact fin ⟨true, SqL.of (of_off e1).2⟩ rd
    | false =>
      obtain ⟨a, xs, rfl, e1, rd⟩ := Rp.tup_inv r2
      exact fin ⟨false, Ke.off.tq e1⟩ rd
end
/-! ### walks and comprehensions -/
/-- what is walked gives ds -/
def PuI (K : PySem.W.Frag) (T : List NTab) (l : List Addr) (wi : TI) (σ : L2.St) (H : Hp) (ds : List PyData) : Prop := ∀ H1, Kp T [] H H1 → ∀ R : It → Hp → Prop,
  (∀ (J : It) (G : Hp → Prop) (Y : Nat → Hp → V → Hp → Prop) (H2 : Hp), Kp T [] H1 H2 → ds.length ≤ sizeLine → Walk J ds.length G Y → (∀ H3 (n : List Addr), (∀ a ∈ n, a ∈ l) → Kp T n H2 H3 → G H3) → (∀ i H3 x H4 (m n : List Addr), i < ds.length → (∀ a ∈ n, a ∈ l) → Kp T n H2 H3 → (∀ a ∈ m, H2 a = none ∧ H3 a ≠ none) → Y i H3 x H4 → Kp T [] H3 H4 ∧ ∃ d, ds[i]? = some d ∧ Rp K (off (l ++ m) H4) x d) → R J H2) → wi σ H1 R
section
variable {K : PySem.W.Frag} {T : List NTab} {l : List Addr} {te ta tb tc td : TE} {tl : TA} {tt tu : L2.TT} {σ : L2.St} {H H' : Hp} {d e : PyData} {ds es : List PyData} {wi : TI} {g : TG} {vs : List Nat}
theorem pi_of {t : Bool} (hd : PuE K T l td σ H (if t then .list ds else .tuple ds)) : PuI K T l (iSeq K td) σ H ds := fun H1 k1 R q => hd H1 k1 _ fun v H2 k2 r2 => by
  have fin : ∀ {a : Addr} {xs : List V}, SqB t K (off l H2) a xs → RpA K (off l H2) xs ds → ∃ a_1 xs t, V.ref a = .ref a_1 ∧ SqB t K H2 a_1 xs ∧ ∀ (J : It) (G : Hp → Prop), xs.length ≤ sizeLine → Walk J xs.length G (YAt xs) → (∀ H', SqB t K H' a_1 xs → G H') → R J H2 := fun {a xs} hq rd =>
    ⟨a, xs, t, rfl, hq.ke Ke.off, fun J G hz W hG => q J G (YAt xs) H2 k2 (by rw [← rd.length]; exact hz) (by rw [← rd.length]; exact W) (fun H3 n hn k3 => hG H3 ((hq.ke (k3.mono hn).ke).ke Ke.off)) fun i H3 x H4 m n hi hn k3 hm y => by
      obtain ⟨rfl, ex⟩ := y
      obtain ⟨d, ed, rx⟩ := rd.get ex
      exact ⟨Kp.refl, d, ed, rx.ke (ke_newF (k3.mono hn) fun a ha => (hm a ha).1)⟩⟩
  cases t with
  | true =>
    obtain ⟨a, xs, rfl, e1, rd⟩ := Rp.list_inv r2
    exact fin (SqL.of e1) rd
  | false =>
    obtain ⟨a, xs, rfl, e1, rd⟩ := Rp.tup_inv r2
    exact fin e1 rd
/-- one turn of a comprehension gives o -/
def LcB (K : PySem.W.Frag) (T : List NTab) (l : List Addr) (g : TG) (tt : L2.TT) (te : TE) (vs : List Nat) (σ : L2.St) (H : Hp) (x : V) (o : Option PyData) : Prop :=
  ∃ σ2, (∀ Q : L2.St → Hp → Prop, Q σ2 H → g x (wipe σ vs) H Q) ∧ wipe σ2 vs = wipe σ vs ∧ ∃ b, PuT T tt σ2 H b ∧ ((b = true ∧ ∃ e, PuE K T l te σ2 H e ∧ o = some e) ∨ (b = false ∧ o = none))
end
end Sky
set_option Elab.async false
set_option linter.all false
set_option maxRecDepth 100000
set_option maxHeartbeats 1000000
/-! Sky Pc: a comprehension over a dict that its own turns read; lists that grow. -/
namespace Sky
open PySem PySem.Spec PyProof.Rows L2 LamX NdefX
section
variable {K : PySem.W.Frag} {T : List NTab} {l : List Addr} {te ta tb tc td : TE} {tl : TA} {tt tu : L2.TT} {σ : L2.St} {H H' : Hp} {d e : PyData} {ds es : List PyData} {wi : TI} {g : TG} {vs : List Nat} {α : Type} {enc : α → PyData} {r : List (Str × α)}
theorem Rp.any {v : V} {d : PyData} (h : Rp K H v d) (e : lvS d = true) : Rp K H' v d := by
  cases h with
  | non => exact .non
  | bl b => exact .bl b
  | int b => exact .int b
  | str b => exact .str b
  | lst _ _ => cases e
  | tup _ _ => cases e
  | dct _ _ => cases e
theorem off_lock {a : Addr} {u : HO} : off (l ++ [a]) (L2.upd H a u) = off (l ++ [a]) H := by
  funext b
  unfold off
  by_cases h : b ∈ l ++ [a]
  · rw [if_pos h, if_pos h]
  · rw [if_neg h, if_neg h, upd_ne (fun z => h (by simp [z]))]
theorem pu_lcK {i : Nat} {a : Addr} (hl : Th l H) (hs : σ[i]? = some (some (.ref a))) (hr : Rp K (off l H) (.ref a) (dV enc r)) (sc : ∀ x, lvS (enc x) = true) (hz0 : r.length ≤ 1000000) (f : Str → PyData)
    (hb : ∀ (n : Str) (H1 : Hp) (l1 : List Addr), n ∈ r.map (·.1) → Th l1 H1 → (∀ v d, Rp K (off (l ++ [a]) H) v d → Rp K (off l1 H1) v d) →
      (∀ (σ2 : L2.St) (ta : TE) (n : Str) (x : α), σ2[i]? = some (some (.ref a)) → PuE K T l1 ta σ2 H1 (.str n) → sget r n = some x → PuE K T l1 (tDGet (tVar i) ta) σ2 H1 (enc x)) → LcB K T l1 g tt te vs σ H1 (.str n) (some (f n))) :
    PuE K T l (tLockE (tLc (iKeys (tVar i)) g tt te vs)) σ H (.list ((r.map (·.1)).map f)) := fun H1 k1 Q q => by
  obtain ⟨_, xs, z, e0, rd⟩ := (hr.kp k1).dV_inv
  cases z
  obtain ⟨nal, e1⟩ := of_off e0
  have hl1 := hl.kp k1
  have hz : xs.length = r.length := by have := rd.length; rw [List.length_map] at this; exact this
  refine ⟨a, _, e1, trivial, fun od => ⟨_, hs, a, od, rfl, .inl ⟨xs, upd_same, fun D hD => ?_⟩⟩⟩
  have nDa : D ≠ a := fun z => by rw [z, upd_same] at hD; cases hD
  have hD1 : H1 D = none := by rw [upd_ne nDa] at hD; exact hD
  have nDl : D ∉ l := hl1.new hD1
  have hD0 : H D = none := k1.n D hD1
  have keysE : ∀ {j : Nat} {k : Key} {v : V}, xs[j]? = some (k, v) → ∃ n, (r.map (·.1))[j]? = some n ∧ k = Sum.inr n := fun {j k v} e => by
    have q := rpD_keys rd
    have e2 : (xs.map fun kv => kV kv.1)[j]? = some (kV k) := by rw [List.getElem?_map, e]; rfl
    rw [q, List.getElem?_map] at e2
    obtain ⟨n, en, ek⟩ := Option.map_eq_some_iff.mp e2
    refine ⟨n, en, ?_⟩
    cases k with
    | inl i => cases ek
    | inr x => cases ek; rfl
  refine lc_acc walk_keys T [] hD (by simp) (le_line (by rw [hz]; exact hz0)) (fun j acc H' => RpA K (off (l ++ [a]) H') acc (((r.map (·.1)).take j).map f)) .nil (fun H' k' => k'.k a _ (by simp [nDa.symm]) upd_same fun _ z => by cases z) (fun j x acc H' H'' Q' Qn hj hn k' hDa R y hk hq => ?_) fun H' acc k' R hDa hal => ?_
  · obtain ⟨rfl, k, v, ek, rfl⟩ := y
    obtain ⟨n, en, rfl⟩ := keysE ek
    have k3 := k'.drop hD
    have f3 : H'' a = some (.frz od (.dK xs)) := k'.k a _ (by simp [nDa.symm]) upd_same fun _ z => by cases z
    have lift0 : Ke (off (l ++ [a]) H) (off (l ++ [a] ++ [D]) H'') := by
      have q1 : Ke (off (l ++ [a]) H) (off (l ++ [a]) (L2.upd H1 a (.frz od (.dK xs)))) := by
        rw [off_lock]
        exact (k1.mono (l' := l ++ [a]) (by simp)).ke
      exact q1.trans (ke_newF (k3.mono (by simp)) fun b hb => by cases List.mem_singleton.mp hb; exact hD)
    obtain ⟨σ2, h1, h2, b, h3, h4⟩ := hb n H'' (l ++ [a] ++ [D]) (List.mem_of_getElem? en) (fun b hb => by
      rcases List.mem_append.mp hb with h | h
      · rcases List.mem_append.mp h with h | h
        · exact fun e => hl1 b h (by
            have q := k3.n b e
            rw [upd_ne (fun z : b = a => nal (by rw [← z]; exact h))] at q
            exact q)
        · cases List.mem_singleton.mp h
          rw [f3]; simp
      · cases List.mem_singleton.mp h
        rw [hDa]; simp) (fun v d r => r.ke lift0) (fun σ2 ta n x e2 ht ex H5 k5 Q5 q5 => by
          refine ⟨_, e2, ht H5 k5 _ fun u H6 k6 s => ?_⟩
          have g1 := rpD_get rd n
          rw [ex] at g1
          obtain ⟨v, ev, rv⟩ := g1
          rw [s.str_inv]
          refine ⟨a, v, rfl, .inl ⟨xs, Sum.inr n, .inr ⟨od, (k5.trans k6).k a _ (by simp) f3 fun _ z => by cases z⟩, rfl, ev.symm⟩, q5 v H6 k6 (rv.any (sc x))⟩)
    have et : ((r.map (·.1)).take (j + 1)).map f = ((r.map (·.1)).take j).map f ++ [f n] := by
      rw [List.take_add_one, en, List.map_append]
      rfl
    refine h1 _ ⟨h2, h3 H'' Kp.refl _ fun H3 k5 => ?_⟩
    rcases h4 with ⟨rfl, e, he, hf⟩ | ⟨rfl, hf⟩
    · cases hf
      refine iteT (he H3 k5 _ fun v H5 k6 rv => hk v H5 (k5.trans k6) ?_)
      rw [et]
      refine (R.ke ?_).snoc ?_
      · rw [off_off, off_off]
        exact ((k5.trans k6).mono (l' := [D] ++ (l ++ [a])) (by simp)).ke
      · rw [off_off]
        exact rv.ke (Ke.sub fun x hx => by
          rcases List.mem_append.mp hx with h | h
          · exact List.mem_append_right _ h
          · exact List.mem_append_left _ h)
    · cases hf
  · have f3 : H' a = some (.frz od (.dK xs)) := k'.k a _ (by simp [nDa.symm]) upd_same fun _ z => by cases z
    refine ⟨f3, q (.ref D) _ (kp_unlock (k'.drop hD) e1 (fun _ z => by cases z) (by simp) fun _ z => by cases z) ?_⟩
    rw [hz, show ((r.map (·.1)).take r.length) = r.map (·.1) by exact List.take_of_length_le (by rw [List.length_map]; exact Nat.le_refl _)] at R
    refine .lst (off_some nDl (by rw [upd_ne nDa]; exact hDa)) (R.ke ?_)
    rw [off_off]
    intro b o e n
    obtain ⟨b1, b2⟩ := of_off e
    have nb : b ≠ a := fun z => b1 (by rw [z]; simp)
    exact off_some (fun z => b1 (List.mem_append_right _ (List.mem_append_left _ z))) (by rw [upd_ne nb]; exact b2)
end
/-! ### a list that grows -/
section
variable {K : PySem.W.Frag} {T : List NTab} {l : List Addr} {te ta tb tc td : TE} {σ : L2.St} {H H' : Hp} {d e : PyData} {ds es : List PyData} {D : Ends}
theorem st_set {i : Nat} (h : PuE K T l te σ H d) (k : ∀ v H1, Kp T [] H H1 → Rp K (off l H1) v d → D.nx (σ.set i (some v)) H1) : tAsg te (gName i) D σ H := h H Kp.refl _ fun v H1 k1 r => k v H1 k1 r
theorem st_ret (h : PuE K T l te σ H d) (k : ∀ v H1, Kp T [] H H1 → Rp K (off l H1) v d → D.rt v H1) : tRet te D σ H := h H Kp.refl _ fun v H1 k1 r => k v H1 k1 r
theorem off_hid {F : Addr} {u : HO} (hF : F ∈ l) : off l (L2.upd H F u) = off l H := by
  funext b
  unfold off
  by_cases h : b ∈ l
  · rw [if_pos h, if_pos h]
  · rw [if_neg h, if_neg h, upd_ne (fun z : b = F => h (by rw [z]; exact hF))]
/-- F.append(e), F in the i-th slot, hidden -/
theorem st_app {i : Nat} {F : Addr} {xs : List V} (hF : F ∈ l) (hs : σ[i]? = some (some (.ref F))) (h0 : H F = some (.lst xs)) (hA : RpA K (off l H) xs ds) (hz : xs.length < 1000000) (h : PuE K T l te σ H d)
    (k : ∀ v H1, Kp T [F] H H1 → H1 F = some (.lst (xs ++ [v])) → RpA K (off l H1) (xs ++ [v]) (ds ++ [d]) → D.nx σ H1) : tDrop (tBM K "list" rAppend (tVar i) (tCons te tNil)) D σ H := by
  refine ⟨_, hs, .inl ⟨rfl, _, SqL.of h0⟩, h H Kp.refl _ fun v H1 k1 r => ?_⟩
  have h1 := k1.lst (by simp) h0
  refine ⟨F, xs, v, rfl, rfl, h1, Nat.lt_of_lt_of_le hz (by decide), k v _ ((k1.mono (by simp)).trans (Kp.upd (by simp) h1)) upd_same ?_⟩
  rw [off_hid hF]
  exact (hA.kp k1).snoc r
/-- F.extend(e) -/
theorem st_ext {i : Nat} {F : Addr} {xs : List V} (hF : F ∈ l) (hs : σ[i]? = some (some (.ref F))) (h0 : H F = some (.lst xs)) (hA : RpA K (off l H) xs ds) (hz : xs.length + es.length ≤ 1000000) (h : PuE K T l te σ H (.list es))
    (k : ∀ ys H1, Kp T [F] H H1 → H1 F = some (.lst (xs ++ ys)) → RpA K (off l H1) (xs ++ ys) (ds ++ es) → D.nx σ H1) : tDrop (tBM K "list" rExtend (tVar i) (tCons te tNil)) D σ H := by
  refine ⟨_, hs, .inl ⟨rfl, _, SqL.of h0⟩, h H Kp.refl _ fun v H1 k1 r => ?_⟩
  have h1 := k1.lst (by simp) h0
  obtain ⟨b, ys, rfl, e1, rd⟩ := r.list_inv
  refine ⟨F, b, xs, ys, rfl, rfl, h1, (of_off e1).2, le_line (by rw [rd.length]; exact hz), k ys _ ((k1.mono (by simp)).trans (Kp.upd (by simp) h1)) upd_same ?_⟩
  rw [off_hid hF]
  exact (hA.kp k1).append rd
end
end Sky
set_option Elab.async false
set_option linter.all false
set_option maxRecDepth 100000
set_option maxHeartbeats 1000000
/-! plain laws: spaces that are like one but for one thing. -/
namespace Sky
open PySem PySem.Spec PyProof.Rows L2 LamX NdefX
section
variable {α : Type} {r : List (Str × α)} {n : Str} {a : α}
theorem put1_new (h : n ∉ r.map (·.1)) : put1 r n a = r ++ [(n, a)] := by
  unfold put1
  rw [if_neg]
  intro z
  obtain ⟨p, hp, e⟩ := List.any_eq_true.mp z
  exact h (List.mem_map.mpr ⟨p, hp, of_decide_eq_true e⟩)
theorem put1_old (h : n ∈ r.map (·.1)) : put1 r n a = r.map fun p => if p.1 = n then (p.1, a) else p := by
  unfold put1
  rw [if_pos]
  obtain ⟨p, hp, e⟩ := List.mem_map.mp h
  exact List.any_eq_true.mpr ⟨p, hp, decide_eq_true e⟩
theorem mrg_app (r t : List (Str × α)) : mrg (r ++ t) = t.foldl (fun acc p => put1 acc p.1 p.2) (mrg r) := by
  unfold mrg
  rw [List.foldl_append]
theorem mrg_snoc : mrg (r ++ [(n, a)]) = put1 (mrg r) n a := mrg_app r [(n, a)]
theorem mrg_nd : ∀ {r : List (Str × α)}, (r.map (·.1)).Nodup → mrg r = r := fun {r} => by
  have go : ∀ (t acc : List (Str × α)), ((acc ++ t).map (·.1)).Nodup → t.foldl (fun acc p => put1 acc p.1 p.2) acc = acc ++ t := fun t => by
    induction t with
    | nil => intro acc _; simp
    | cons p t ih =>
      intro acc nd
      rw [List.foldl_cons, put1_new, ih]
      · simp
      · simpa using nd
      · rw [List.map_append, List.map_cons] at nd
        have := (List.nodup_append.mp nd).2.2
        exact fun z => this _ z _ (List.mem_cons_self ..) rfl
  exact fun nd => go r [] nd
end
section
variable {S : SpD} (ok : OkSp S.rooms S.homes S.lanes)
include ok
theorem ok_home {n : Str} (h : nmS n = true) (h1 : n ∉ S.rooms.map (·.1)) (h2 : n ∉ S.homes) (z : S.homes.length ≤ 2000) : OkSp S.rooms (S.homes ++ [n]) S.lanes := by
  refine ⟨ok.nm, ok.nd, fun z hz => ?_, ?_, fun p hp => ?_, ok.ld, ok.rz, by rw [List.length_append]; show S.homes.length + 1 ≤ _; omega, ok.lz⟩
  · rcases List.mem_append.mp hz with hz | hz
    · exact ok.hm z hz
    · cases List.mem_singleton.mp hz
      exact ⟨h, h1⟩
  · refine List.nodup_append.mpr ⟨ok.hd, List.nodup_cons.mpr ⟨(fun z => by cases z), List.nodup_nil⟩, fun x hx y hy e => ?_⟩
    cases List.mem_singleton.mp hy
    exact h2 (e ▸ hx)
  · have q := ok.ln p hp
    exact ⟨q.1, q.2.1.imp id (fun h => List.mem_append_left _ h), q.2.2⟩
theorem ok_room {n : Str} (h : nmS n = true) (h1 : n ∉ S.rooms.map (·.1)) (h2 : n ∉ S.homes) (z : S.rooms.length ≤ 2000) : OkSp (S.rooms ++ [(n, 1)]) S.homes S.lanes := by
  have e : (S.rooms ++ [(n, (1 : Int))]).map (·.1) = S.rooms.map (·.1) ++ [n] := by rw [List.map_append]; rfl
  refine ⟨fun p hp => ?_, ?_, fun z hz => ?_, ok.hd, fun p hp => ?_, ok.ld, by rw [List.length_append]; show S.rooms.length + 1 ≤ _; omega, ok.hz, ok.lz⟩
  · rcases List.mem_append.mp hp with hp | hp
    · exact ok.nm p hp
    · cases List.mem_singleton.mp hp
      exact ⟨h, by show (0 : Int) < 1; decide⟩
  · rw [e]
    refine List.nodup_append.mpr ⟨ok.nd, List.nodup_cons.mpr ⟨(fun z => by cases z), List.nodup_nil⟩, fun x hx y hy e => ?_⟩
    cases List.mem_singleton.mp hy
    exact h1 (e ▸ hx)
  · rw [e]
    refine ⟨(ok.hm z hz).1, fun hm => ?_⟩
    rcases List.mem_append.mp hm with hm | hm
    · exact (ok.hm z hz).2 hm
    · cases List.mem_singleton.mp hm
      exact h2 hz
  · rw [e]
    have q := ok.ln p hp
    exact ⟨List.mem_append_left _ q.1, q.2.1.imp (List.mem_append_left _) id, q.2.2⟩
theorem map_keys {f : Str × Int → Str × Int} (hf : ∀ p, (f p).1 = p.1) (r : List (Str × Int)) : (r.map f).map (·.1) = r.map (·.1) := by
  rw [List.map_map]
  exact List.map_congr_left fun p _ => hf p
theorem ok_more {c : Str} {i : Int} (hi : 0 < i) : OkSp (S.rooms.map fun p => if p.1 = c then (p.1, i) else p) S.homes S.lanes := by
  have e := map_keys ok (f := fun p => if p.1 = c then (p.1, i) else p) (fun p => by show (if p.1 = c then (p.1, i) else p).1 = p.1; split <;> rfl) S.rooms
  refine ⟨fun p hp => ?_, by rw [e]; exact ok.nd, fun z hz => by rw [e]; exact ok.hm z hz, ok.hd, fun p hp => by rw [e]; exact ok.ln p hp, ok.ld, by rw [List.length_map]; exact ok.rz, ok.hz, ok.lz⟩
  obtain ⟨q, hq, rfl⟩ := List.mem_map.mp hp
  have h := ok.nm q hq
  split
  · exact ⟨h.1, hi⟩
  · exact h
theorem ok_lanes {ls : List (Str × Str × Int)} (h : ∀ p ∈ ls, ∃ q ∈ S.lanes, p.1 = q.1 ∧ p.2.1 = q.2.1 ∧ 0 < p.2.2) (nd : (ls.map fun p => (p.1, p.2.1)).Nodup) (z : ls.length ≤ 1000000) : OkSp S.rooms S.homes ls := by
  refine ⟨ok.nm, ok.nd, ok.hm, ok.hd, fun p hp => ?_, nd, ok.rz, ok.hz, z⟩
  obtain ⟨q, hq, e1, e2, e3⟩ := h p hp
  have := ok.ln q hq
  rw [e1, e2]
  exact ⟨this.1, this.2.1, this.2.2.1, e3⟩
theorem split_at {at_ : Nat} {p : Str × Str × Int} (e : S.lanes[at_]? = some p) : S.lanes = S.lanes.take at_ ++ ([p] ++ S.lanes.drop (at_ + 1)) := by
  obtain ⟨hi, hy⟩ := List.getElem?_eq_some_iff.mp e
  have := List.drop_eq_getElem_cons hi
  rw [hy] at this
  rw [show [p] ++ S.lanes.drop (at_ + 1) = p :: S.lanes.drop (at_ + 1) from rfl, ← this, List.take_append_drop]
theorem ok_less {at_ : Nat} {p : Str × Str × Int} (e : S.lanes[at_]? = some p) : OkSp S.rooms S.homes (S.lanes.take at_ ++ S.lanes.drop (at_ + 1)) := by
  have es := split_at ok e
  have sub : (S.lanes.take at_ ++ S.lanes.drop (at_ + 1)).Sublist S.lanes := by
    conv => rhs; rw [es]
    exact List.Sublist.append (List.Sublist.refl _) (List.sublist_append_right _ _)
  refine ok_lanes ok (fun q hq => ⟨q, sub.subset hq, rfl, rfl, (ok.ln q (sub.subset hq)).2.2.2⟩) ((sub.map _).nodup ok.ld) (Nat.le_trans sub.length_le ok.lz)
theorem ok_dear {at_ : Nat} {p : Str × Str × Int} (e : S.lanes[at_]? = some p) : OkSp S.rooms S.homes ((S.lanes.take at_ ++ [(p.1, p.2.1, p.2.2 + 1)]) ++ S.lanes.drop (at_ + 1)) := by
  have es := split_at ok e
  have em : ((S.lanes.take at_ ++ [(p.1, p.2.1, p.2.2 + 1)]) ++ S.lanes.drop (at_ + 1)).map (fun p => (p.1, p.2.1)) = S.lanes.map fun p => (p.1, p.2.1) := by
    conv => rhs; rw [es]
    simp
  have el : ((S.lanes.take at_ ++ [(p.1, p.2.1, p.2.2 + 1)]) ++ S.lanes.drop (at_ + 1)).length = S.lanes.length := by
    have := congrArg List.length em
    simpa only [List.length_map] using this
  refine ok_lanes ok (fun q hq => ?_) (by rw [em]; exact ok.ld) (by rw [el]; exact ok.lz)
  have hp : p ∈ S.lanes := List.mem_of_getElem? e
  have h0 := (ok.ln p hp).2.2.2
  rcases List.mem_append.mp hq with hq | hq
  · rcases List.mem_append.mp hq with hq | hq
    · exact ⟨q, List.mem_of_mem_take hq, rfl, rfl, (ok.ln q (List.mem_of_mem_take hq)).2.2.2⟩
    · cases List.mem_singleton.mp hq
      exact ⟨p, hp, rfl, rfl, by show 0 < p.2.2 + 1; omega⟩
  · exact ⟨q, List.mem_of_mem_drop hq, rfl, rfl, (ok.ln q (List.mem_of_mem_drop hq)).2.2.2⟩
theorem ok_back {at_ : Nat} {p : Str × Str × Int} (e : S.lanes[at_]? = some p) (h1 : p.2.1 ∈ S.rooms.map (·.1)) (h2 : ∀ q ∈ S.lanes, ¬ (q.1 = p.2.1 ∧ q.2.1 = p.1)) : OkSp S.rooms S.homes ((S.lanes.take at_ ++ [(p.2.1, p.1, p.2.2)]) ++ S.lanes.drop (at_ + 1)) := by
  have hp : p ∈ S.lanes := List.mem_of_getElem? e
  have h0 := ok.ln p hp
  have less := ok_less ok e
  have es := split_at ok e
  have pm : ((S.lanes.take at_ ++ [(p.2.1, p.1, p.2.2)]) ++ S.lanes.drop (at_ + 1)).Perm ((p.2.1, p.1, p.2.2) :: (S.lanes.take at_ ++ S.lanes.drop (at_ + 1))) := by
    rw [List.append_assoc]
    exact List.perm_middle
  have el : (S.lanes.take at_ ++ S.lanes.drop (at_ + 1)).length + 1 = S.lanes.length := by
    conv => rhs; rw [es]
    simp only [List.length_append, List.length_singleton]
    omega
  refine ⟨ok.nm, ok.nd, ok.hm, ok.hd, fun q hq => ?_, (pm.map _).nodup_iff.mpr ?_, ok.rz, ok.hz, by rw [pm.length_eq, List.length_cons, el]; exact ok.lz⟩
  · rcases List.mem_cons.mp (pm.mem_iff.mp hq) with rfl | hq
    · exact ⟨h1, .inl h0.1, fun z => h0.2.2.1 z.symm, h0.2.2.2⟩
    · exact less.ln q hq
  · rw [List.map_cons, List.nodup_cons]
    refine ⟨fun z => ?_, less.ld⟩
    obtain ⟨q, hq, eq⟩ := List.mem_map.mp z
    injection eq with e1 e2
    have hq' : q ∈ S.lanes := by
      rcases List.mem_append.mp hq with h | h
      · exact List.mem_of_mem_take h
      · exact List.mem_of_mem_drop h
    exact h2 q hq' ⟨e1, e2⟩
/-- renamed -/
def rnS (f : Str → Str) (S : SpD) : SpD := ⟨S.rooms.map fun p => (f p.1, p.2), S.homes.map f, S.lanes.map fun p => (f p.1, f p.2.1, p.2.2)⟩
omit ok in
theorem nodup_on {α β : Type} {f : α → β} : ∀ {l : List α}, (∀ a ∈ l, ∀ b ∈ l, f a = f b → a = b) → l.Nodup → (l.map f).Nodup
  | [], _, _ => List.nodup_nil
  | a :: l, h, nd => by
    rw [List.nodup_cons] at nd
    rw [List.map_cons, List.nodup_cons]
    refine ⟨fun z => ?_, nodup_on (fun x hx y hy => h x (List.mem_cons_of_mem _ hx) y (List.mem_cons_of_mem _ hy)) nd.2⟩
    obtain ⟨b, hb, e⟩ := List.mem_map.mp z
    exact nd.1 (h b (List.mem_cons_of_mem _ hb) a (List.mem_cons_self ..) e ▸ hb)
theorem ok_named {f : Str → Str} (hn : ∀ z, z ∈ S.rooms.map (·.1) ∨ z ∈ S.homes → nmS (f z) = true) (hi : ∀ y z, (y ∈ S.rooms.map (·.1) ∨ y ∈ S.homes) → (z ∈ S.rooms.map (·.1) ∨ z ∈ S.homes) → f y = f z → y = z) :
    OkSp (rnS f S).rooms (rnS f S).homes (rnS f S).lanes := by
  have ek : (rnS f S).rooms.map (·.1) = (S.rooms.map (·.1)).map f := by
    show (S.rooms.map fun p => (f p.1, p.2)).map (·.1) = _
    rw [List.map_map, List.map_map]
    rfl
  refine ⟨fun p hp => ?_, ?_, fun z hz => ?_, nodup_on (fun a ha b hb e => hi a b (.inr ha) (.inr hb) e) ok.hd, fun p hp => ?_, ?_, by show (S.rooms.map _).length ≤ _; rw [List.length_map]; exact ok.rz, by show (S.homes.map _).length ≤ _; rw [List.length_map]; exact ok.hz, by show (S.lanes.map _).length ≤ _; rw [List.length_map]; exact ok.lz⟩
  · obtain ⟨q, hq, rfl⟩ := List.mem_map.mp (show p ∈ S.rooms.map fun p => (f p.1, p.2) from hp)
    exact ⟨hn _ (.inl (List.mem_map.mpr ⟨q, hq, rfl⟩)), (ok.nm q hq).2⟩
  · rw [ek]
    exact nodup_on (fun a ha b hb e => hi a b (.inl ha) (.inl hb) e) ok.nd
  · obtain ⟨y, hy, rfl⟩ := List.mem_map.mp (show z ∈ S.homes.map f from hz)
    refine ⟨hn y (.inr hy), fun hm => ?_⟩
    rw [ek] at hm
    obtain ⟨x, hx, e⟩ := List.mem_map.mp hm
    exact (ok.hm y hy).2 (hi x y (.inl hx) (.inr hy) e ▸ hx)
  · obtain ⟨q, hq, rfl⟩ := List.mem_map.mp (show p ∈ S.lanes.map fun p => (f p.1, f p.2.1, p.2.2) from hp)
    have h0 := ok.ln q hq
    rw [ek]
    refine ⟨List.mem_map.mpr ⟨_, h0.1, rfl⟩, h0.2.1.imp (fun h => List.mem_map.mpr ⟨_, h, rfl⟩) (fun h => List.mem_map.mpr ⟨_, h, rfl⟩), fun e => h0.2.2.1 (hi _ _ h0.2.1 (.inl h0.1) e), h0.2.2.2⟩
  · show ((S.lanes.map fun p => (f p.1, f p.2.1, p.2.2)).map fun p => (p.1, p.2.1)).Nodup
    rw [List.map_map, show ((fun p : Str × Str × Int => (p.1, p.2.1)) ∘ fun p : Str × Str × Int => (f p.1, f p.2.1, p.2.2)) = (fun q : Str × Str => (f q.1, f q.2)) ∘ fun p : Str × Str × Int => (p.1, p.2.1) from rfl, ← List.map_map]
    refine nodup_on (fun a ha b hb e => ?_) ok.ld
    obtain ⟨p, hp, rfl⟩ := List.mem_map.mp ha
    obtain ⟨q, hq, rfl⟩ := List.mem_map.mp hb
    injection e with e1 e2
    have h0 := ok.ln p hp
    have h1 := ok.ln q hq
    exact Prod.ext (hi _ _ (.inl h0.1) (.inl h1.1) e1) (hi _ _ h0.2.1 h1.2.1 e2)
theorem ok_idle {h : Str} (hl : ∀ p ∈ S.lanes, p.2.1 ≠ h) : OkSp S.rooms (S.homes.filter fun z => !decide (z = h)) S.lanes := by
  have sub : (S.homes.filter fun z => !decide (z = h)).Sublist S.homes := List.filter_sublist
  refine ⟨ok.nm, ok.nd, fun z hz => ok.hm z (sub.subset hz), sub.nodup ok.hd, fun p hp => ?_, ok.ld, ok.rz, Nat.le_trans sub.length_le ok.hz, ok.lz⟩
  have q := ok.ln p hp
  refine ⟨q.1, q.2.1.imp id (fun hm => ?_), q.2.2⟩
  exact List.mem_filter.mpr ⟨hm, by simp [hl p hp]⟩
end
theorem shaped_pair {y z : Str} (h1 : nmS y = true) (h2 : nmS z = true) : SeqAt.shaped (.tuple [.str y, .str z]) = true := by
  have e1 := nm_ok h1
  have e2 := nm_ok h2
  simp [SeqAt.shaped, PyData.canLay0, PyData.canLayAll0, e1, e2, PyData.depth, PyData.depthAll]
theorem eqv_pair (a b c d : Str) : PyData.eqv (.tuple [.str a, .str b]) (.tuple [.str c, .str d]) = (decide (a = c) && decide (b = d)) := by
  simp only [PyData.eqv, PyData.eqvAll, Bool.and_true]
  rw [Bool.eq_iff_iff]
  simp
theorem lnD_take (p : Str × Str × Int) : lnD p = .tuple [.str p.1, .str p.2.1, .int p.2.2] := rfl
/-- the new name of one -/
def ovf (old new : Str) (n : Str) : Str := if n = old then new else n
theorem over_mrg {ns : List Str} {old new : Str} (nd : ns.Nodup) (h : old ∈ ns) : mrg ((ns.map fun n => (n, n)) ++ [(old, new)]) = ns.map fun n => (n, ovf old new n) := by
  have e1 : (ns.map fun n => (n, n)).map (·.1) = ns := by rw [List.map_map]; exact List.map_id _
  rw [mrg_snoc, mrg_nd (by rw [e1]; exact nd), put1_old (by rw [e1]; exact h), List.map_map]
  refine List.map_congr_left fun n _ => ?_
  show (if n = old then (n, new) else (n, n)) = (n, ovf old new n)
  unfold ovf
  split <;> rfl
theorem sget_fun {α : Type} {f : Str → α} : ∀ {ns : List Str} {n : Str}, n ∈ ns → sget (ns.map fun n => (n, f n)) n = some (f n)
  | y :: r, n, h => by
    unfold sget
    rw [List.map_cons, List.find?_cons]
    by_cases e : y = n
    · subst e
      rw [decide_eq_true rfl]
      rfl
    · rw [decide_eq_false e]
      refine sget_fun (f := f) (ns := r) ?_
      rcases List.mem_cons.mp h with h | h
      · exact (e h.symm).elim
      · exact h
theorem sget_nd {α : Type} : ∀ {r : List (Str × α)} {p : Str × α}, (r.map (·.1)).Nodup → p ∈ r → sget r p.1 = some p.2
  | q :: r, p, nd, h => by
    rw [List.map_cons, List.nodup_cons] at nd
    unfold sget
    rw [List.find?_cons]
    rcases List.mem_cons.mp h with rfl | h
    · rw [decide_eq_true rfl]
      rfl
    · have e : q.1 ≠ p.1 := fun z => nd.1 (z ▸ List.mem_map.mpr ⟨p, h, rfl⟩)
      rw [decide_eq_false e]
      exact sget_nd nd.2 h
theorem nms_nd {S : SpD} (ok : OkSp S.rooms S.homes S.lanes) : (S.rooms.map (·.1) ++ S.homes).Nodup :=
  List.nodup_append.mpr ⟨ok.nd, ok.hd, fun x hx y hy e => (ok.hm y hy).2 (e ▸ hx)⟩
theorem ok_over {S : SpD} (ok : OkSp S.rooms S.homes S.lanes) (sh : Sh5 S) {old new : Str} (hn : nmS new = true) (hl : new.length = 8) : OkSp (rnS (ovf old new) S).rooms (rnS (ovf old new) S).homes (rnS (ovf old new) S).lanes := by
  have ne : ∀ z, (z ∈ S.rooms.map (·.1) ∨ z ∈ S.homes) → z ≠ new := fun z hz e => by
    have := sh z hz
    rw [e, hl] at this
    omega
  refine ok_named ok (fun z hz => ?_) fun y z hy hz e => ?_
  · unfold ovf
    split
    · exact hn
    · exact nm_end ok hz
  · unfold ovf at e
    split at e
    · rename_i h1
      split at e
      · rename_i h2
        rw [h1, h2]
      · exact (ne z hz e.symm).elim
    · split at e
      · exact (ne y hy e).elim
      · exact e
end Sky
set_option Elab.async false
set_option linter.all false
set_option maxRecDepth 100000
set_option maxHeartbeats 1000000
/-! Sky Pd: comprehensions over typed things; new lists. -/
namespace Sky
open PySem PySem.Spec PyProof.Rows L2 LamX NdefX
section
variable {K : PySem.W.Frag} {T : List NTab} {l : List Addr} {te ta tb tc td : TE} {tl : TA} {tt tu : L2.TT} {σ : L2.St} {H H' : Hp} {d e : PyData} {ds es : List PyData} {wi : TI} {g : TG} {vs : List Nat} {α β : Type} {fa : α → PyData} {fb : β → PyData}
theorem pu_takeT (hl : Th l H) {k : Nat} (h : PuE K T l te σ H (.tuple ds)) (hk : PuE K T l ta σ H (.int (k : Int))) (hlt : k < ds.length) : PuE K T l (tSl (rSlT K) te tNoPart (tPart ta)) σ H (.tuple (ds.take k)) := fun H1 k1 Q q =>
  h H1 k1 _ fun v H2 k2 r => hk H2 (k1.trans k2) _ fun u H3 k3 s => by
    obtain ⟨a, xs, rfl, e1, r1⟩ := r.tup_inv
    have hx : xs.length = ds.length := r1.length
    refine ⟨(k : Int), s.int_inv, a, xs, rfl, k3.ke0.tq (Ke.off.tq e1), fun z => ?_, fun p hp => ?_⟩
    · have z2 := z.2
      rw [HT.sIx_nat] at z2
      omega
    · rw [cutV_takeN]
      exact q _ _ ((k2.trans k3).trans (Kp.new hp)) (.tup (SqT.of (off_some ((hl.kp ((k1.trans k2).trans k3)).new hp) upd_same)) (((RpA.take (xs := []) k (r1.kp k3))).kp (T := T) (Kp.new hp)))
theorem pu_val {v : V} (h : Rp K (off l H) v d) : PuE K T l (tC v) σ H d := fun H1 k1 Q q => q v H1 Kp.refl (h.kp k1)
/-- a change of what is hidden -/
theorem Rp.kpl {v : V} {m : List Addr} (h : Rp K (off l H) v d) (k : Kp T m H H') (hm : ∀ x ∈ m, x ∈ l) : Rp K (off l H') v d := h.ke (k.mono hm).ke
theorem RpA.kpl {v : List V} {m : List Addr} (h : RpA K (off l H) v ds) (k : Kp T m H H') (hm : ∀ x ∈ m, x ∈ l) : RpA K (off l H') v ds := h.ke (k.mono hm).ke
/-- a comprehension over typed things: a new list, told apart -/
theorem pu_lcN {as : List α} (hl : Th l H) (hi : PuI K T l wi σ H (as.map fa)) (f : α → Option β)
    (hb : ∀ (a : α) (x : V) (H1 : Hp) (l1 : List Addr), a ∈ as → Kp T [] H H1 → Th l1 H1 → (∀ v d, Rp K (off l H) v d → Rp K (off l1 H1) v d) → Rp K (off l1 H1) x (fa a) → LcB K T l1 g tt te vs σ H1 x ((f a).map fb)) {Q : VK}
    (q : ∀ D xs H2, H D = none → Kp T [] H H2 → H2 D = some (.lst xs) → RpA K (off (l ++ [D]) H2) xs ((as.filterMap f).map fb) → Q (.ref D) H2) : tLc wi g tt te vs σ H Q :=
  hi H Kp.refl _ fun J G Y H2 k2 hz W hG hY D hD => by
    have nDl : D ∉ l := (hl.kp k2).new hD
    have hD0 : H D = none := k2.n D hD
    have hlen : (as.map fa).length = as.length := List.length_map ..
    refine lc_acc W T [] hD (by simp) hz (fun i acc H' => RpA K (off l H') acc (((as.take i).filterMap f).map fb)) .nil (fun H' k' => hG H' [] (by simp) (k'.drop hD)) (fun i x acc H' H'' Q' Qn hi hn k' hDa R y hk hq => ?_) fun H' acc k' R hDa hal => ?_
    · have k3 := k'.drop hD
      obtain ⟨k4, d, ed, rx⟩ := hY i H' x H'' [D] [] hi (by simp) k3 (fun a ha => by cases List.mem_singleton.mp ha; exact ⟨hD, by rw [hDa]; simp⟩) y
      rw [List.getElem?_map] at ed
      obtain ⟨a, ea, rfl⟩ := Option.map_eq_some_iff.mp ed
      have kH := (k2.trans k3).trans k4
      have hD4 : H'' D = some (.lst acc) := k4.lst (by simp) hDa
      obtain ⟨σ2, h1, h2, b, h3, h4⟩ := hb a x H'' (l ++ [D]) (List.mem_of_getElem? ea) kH (fun a ha => by
        rcases List.mem_append.mp ha with h | h
        · exact hl.kp kH a h
        · cases List.mem_singleton.mp h
          rw [hD4]; simp) (fun v d r => r.ke (ke_newF (kH.mono (by simp)) fun a ha => by cases List.mem_singleton.mp ha; exact hD0)) rx
      have et : ((as.take (i + 1)).filterMap f).map fb = ((as.take i).filterMap f).map fb ++ ([a].filterMap f).map fb := by
        rw [List.take_add_one, ea, List.filterMap_append, List.map_append]
        rfl
      have kk : ∀ {H3}, Kp T [] H'' H3 → Ke (off l (off [D] H')) (off l (off [D] H3)) := fun k5 => by
        rw [off_off, off_off]
        exact ((k4.trans k5).mono (l' := [D] ++ l) (by simp)).ke
      refine h1 _ ⟨h2, h3 H'' Kp.refl _ fun H3 k5 => ?_⟩
      rcases h4 with ⟨rfl, e, he, hf⟩ | ⟨rfl, hf⟩
      · obtain ⟨b', eb, rfl⟩ := Option.map_eq_some_iff.mp hf
        refine iteT (he H3 k5 _ fun v H5 k6 rv => hk v H5 (k4.trans (k5.trans k6)) ?_)
        rw [et]
        simp only [List.filterMap_cons, eb, List.filterMap_nil, List.map_cons, List.map_nil]
        refine (R.ke (kk (k5.trans k6))).snoc ?_
        rw [off_off]
        exact rv.ke (Ke.sub fun x hx => by
          rcases List.mem_append.mp hx with h | h
          · exact List.mem_append_right _ h
          · exact List.mem_append_left _ h)
      · have eb : f a = none := by
          cases z : f a with
          | none => rfl
          | some y => rw [z] at hf; cases hf
        refine iteF (hq H3 (k4.trans k5) ?_)
        rw [et]
        simp only [List.filterMap_cons, eb, List.filterMap_nil, List.map_nil, List.append_nil]
        exact R.ke (kk k5)
    · rw [hlen, List.take_length] at R
      refine q D acc H' hD0 (k2.trans (k'.drop hD)) hDa (R.ke ?_)
      rw [off_off]
      exact Ke.sub fun x hx => by
        rcases List.mem_append.mp hx with h | h
        · exact List.mem_append_right _ h
        · exact List.mem_append_left _ h
theorem pu_lcT {as : List α} (hl : Th l H) (hi : PuI K T l wi σ H (as.map fa)) (f : α → Option β)
    (hb : ∀ (a : α) (x : V) (H1 : Hp) (l1 : List Addr), a ∈ as → Kp T [] H H1 → Th l1 H1 → (∀ v d, Rp K (off l H) v d → Rp K (off l1 H1) v d) → Rp K (off l1 H1) x (fa a) → LcB K T l1 g tt te vs σ H1 x ((f a).map fb)) :
    PuE K T l (tLc wi g tt te vs) σ H (.list ((as.filterMap f).map fb)) := fun H1 k1 Q q =>
  pu_lcN (hl.kp k1) (fun H2 k2 => hi H2 (k1.trans k2)) f (fun a x H2 l1 ha k2 h1 h2 h3 => hb a x H2 l1 ha (k1.trans k2) h1 (fun v d r => h2 v d (r.kp k1)) h3) fun D xs H2 hD k2 e r => q _ H2 k2 (.lst (off_some ((hl.kp k1).new hD) e) (r.ke (Ke.sub fun x hx => List.mem_append_left _ hx)))
theorem filterMap_all {f : α → β} (as : List α) : as.filterMap (fun a => some (f a)) = as.map f := by
  induction as with
  | nil => rfl
  | cons a r ih => simp [ih]
theorem filterMap_filt (p : α → Bool) : ∀ as : List α, as.filterMap (fun a => if p a then some a else none) = as.filter p
  | [] => rfl
  | a :: r => by
    rw [List.filterMap_cons, List.filter_cons, filterMap_filt p r]
    cases p a <;> rfl
/-- every one is taken -/
theorem pu_lcM {as : List α} (hl : Th l H) (hi : PuI K T l wi σ H (as.map fa)) (f : α → β)
    (hb : ∀ (a : α) (x : V) (H1 : Hp) (l1 : List Addr), a ∈ as → Kp T [] H H1 → Th l1 H1 → (∀ v d, Rp K (off l H) v d → Rp K (off l1 H1) v d) → Rp K (off l1 H1) x (fa a) → LcB K T l1 g tt te vs σ H1 x (some (fb (f a)))) :
    PuE K T l (tLc wi g tt te vs) σ H (.list ((as.map f).map fb)) := by
  have q := pu_lcT (fb := fb) hl hi (fun a => some (f a)) fun a x H1 l1 ha k h1 h2 h3 => hb a x H1 l1 ha k h1 h2 h3
  rw [filterMap_all] at q
  exact q
/-- those are taken of which p holds -/
theorem pu_lcF {as : List α} (hl : Th l H) (hi : PuI K T l wi σ H (as.map fa)) (p : α → Bool)
    (hb : ∀ (a : α) (x : V) (H1 : Hp) (l1 : List Addr), a ∈ as → Kp T [] H H1 → Th l1 H1 → (∀ v d, Rp K (off l H) v d → Rp K (off l1 H1) v d) → Rp K (off l1 H1) x (fa a) → LcB K T l1 g tt te vs σ H1 x (if p a then some (fa a) else none)) :
    PuE K T l (tLc wi g tt te vs) σ H (.list ((as.filter p).map fa)) := by
  have q := pu_lcT (fb := fa) hl hi (fun a => if p a then some a else none) fun a x H1 l1 ha k h1 h2 h3 => by
    have z := hb a x H1 l1 ha k h1 h2 h3
    cases hp : p a with
    | true => rw [hp] at z; exact z
    | false => rw [hp] at z; exact z
  rw [filterMap_filt] at q
  exact q
theorem pu_go {K : PySem.W.Frag} (T : List NTab) {l : List Addr} {te : TE} {σ : L2.St} {H : Hp} {d : PyData} {Q : VK} (h : PuE K T l te σ H d) (q : ∀ v H2, Kp T [] H H2 → Rp K (off l H2) v d → Q v H2) : te σ H Q := h H Kp.refl Q q
theorem pt_go (T : List NTab) {tt : L2.TT} {σ : L2.St} {H : Hp} {b : Bool} {Q : Bool → Hp → Prop} (h : PuT T tt σ H b) (q : ∀ H2, Kp T [] H H2 → Q b H2) : tt σ H Q := h H Kp.refl Q q
/-- a new dict, told apart -/
theorem pu_dictN {K : PySem.W.Frag} {T : List NTab} {l : List Addr} {ta : TE} {σ : L2.St} {H : Hp} {α : Type} {enc : α → PyData} {r : List (Str × α)} (hl : Th l H) (h : PuE K T l ta σ H (.list (r.map fun p => .tuple [.str p.1, enc p.2]))) {Q : VK}
    (q : ∀ p xs H2, H p = none → Kp T [] H H2 → H2 p = some (.dK xs) → RpD K (off l H2) xs ((mrg r).map fun p => (.str p.1, enc p.2)) → Q (.ref p) H2) : tCB (rDictP K) (tCons ta tNil) σ H Q :=
  h H Kp.refl _ fun v H2 k2 r2 => by
    obtain ⟨a, xs, rfl, e1, rd⟩ := r2.list_inv
    obtain ⟨ps, kvs, rfl, h1, h2⟩ := rpA_pairs rd
    have h1' : Paired (fun p (kv : Key × V) => SqT K H2 p [kV kv.1, kv.2]) ps kvs := by
      clear h2 e1 rd
      induction h1 with
      | nil => exact .nil
      | cons h _ ih => exact .cons (Ke.off.tq h) ih
    refine ⟨a, ps, kvs, rfl, SqL.of (of_off e1).2, h1', fun p hp => q p _ _ (k2.n p hp) (k2.trans (Kp.new hp)) upd_same ?_⟩
    have k3 : Kp T [] H2 (upd H2 p (.dK (mergeK [] kvs))) := Kp.new hp
    exact (rpD_mrg h2).ke (k3.mono (l' := l) (by simp)).ke
theorem rd_name {i : Nat} {v : V} {σ : L2.St} {H : Hp} {Q : L2.St → Hp → Prop} (h : Q (σ.set i (some v)) H) : gName i v σ H Q := h
theorem op_call2 {tb : TE} {r : R2} {x : V} {σ : L2.St} {H : Hp} {Q : VK} (h : tb σ H fun y H1 => r x y H1 Q) : tOp r (tC x) tb σ H Q := h
theorem op_val {r : R2} {x y : V} (σ : L2.St) {H : Hp} {Q : VK} (h : tOp r (tC x) (tC y) σ H Q) : r x y H Q := h
theorem cb_val {r : List V → Hp → VK → Prop} {x : V} {σ : L2.St} {H : Hp} {Q : VK} (h : tCB r (tCons (tC x) tNil) σ H Q) : r [x] H Q := h
theorem rpD_any {K : PySem.W.Frag} {H H' : Hp} {α : Type} {enc : α → PyData} (sc : ∀ x, lvS (enc x) = true) : ∀ {r : List (Str × α)} {xs : List (Key × V)}, RpD K H xs (r.map fun p => (.str p.1, enc p.2)) → RpD K H' xs (r.map fun p => (.str p.1, enc p.2))
  | [], xs, h => by cases h; exact .nil
  | p :: r, xs, h => by
    rw [List.map_cons] at h ⊢
    generalize ekd : (PyData.str p.1, enc p.2) = kd at h
    cases h with
    | cons h t =>
      injection ekd with e1 e2
      subst e2
      exact .cons (h.any (sc _)) (rpD_any sc t)
/-- the iterable is told ahead -/
theorem lc_call {K : PySem.W.Frag} {te tu : TE} {g : TG} {tt : L2.TT} {vs : List Nat} {σ : L2.St} {H : Hp} {Q : VK} (h : te σ H fun x H1 => tLc (iSeq K (tC x)) g tt tu vs σ H1 Q) : tLc (iSeq K te) g tt tu vs σ H Q := h
theorem for_call {K : PySem.W.Frag} {te : TE} {g : TG} {tb : TS} {σ : L2.St} {H : Hp} {D : Ends} (h : te σ H fun x H1 => tFor (iSeq K (tC x)) g tb D σ H1) : tFor (iSeq K te) g tb D σ H := h
theorem sl_call {te : TE} {r : V → Option Int → Option Int → Hp → VK → Prop} {lo hi : TO} {σ : L2.St} {H : Hp} {Q : VK} (h : te σ H fun x H1 => tSl r (tC x) lo hi σ H1 Q) : tSl r te lo hi σ H Q := h
theorem op_call {ta tb : TE} {r : R2} {σ : L2.St} {H : Hp} {Q : VK} (h : ta σ H fun x H1 => tOp r (tC x) tb σ H1 Q) : tOp r ta tb σ H Q := h
/-- a for over typed things: what its turns change is hidden -/
theorem for_T {as : List α} {tb : TS} {D : Ends} (hi : PuI K T l wi σ H (as.map fa))
    (h : ∀ H2, Kp T [] H H2 → ∃ Pv : Nat → L2.St → Hp → Prop, Pv 0 σ H2 ∧ (∀ i σ' H', Pv i σ' H' → ∃ m, (∀ x ∈ m, x ∈ l) ∧ Kp T m H2 H') ∧ (∀ i σ' H' H'', Pv i σ' H' → Kp T [] H' H'' → Pv i σ' H'') ∧
      (∀ i a x σ' H', as[i]? = some a → Pv i σ' H' → Rp K (off l H') x (fa a) → g x σ' H' fun σ2 H3 => tb { D with nx := Pv (i + 1), ct := Pv (i + 1), bk := D.nx } σ2 H3) ∧ (∀ σ' H', Pv as.length σ' H' → D.nx σ' H')) : tFor wi g tb D σ H :=
  hi H Kp.refl _ fun J G Y H2 k2 hz W hG hY => by
    obtain ⟨Pv, p0, pk, pm, ps, pd⟩ := h H2 k2
    have hlen : (as.map fa).length = as.length := List.length_map ..
    refine for_it W Pv p0 (fun i σ' H' _ p => ?_) (fun i x σ' H' H'' hi p y => ?_) (by rw [hlen]; exact pd)
    · obtain ⟨m, hm, km⟩ := pk i σ' H' p
      exact hG H' m hm km
    · obtain ⟨m, hm, km⟩ := pk i σ' H' p
      obtain ⟨k4, d, ed, rx⟩ := hY i H' x H'' [] m hi hm km (fun _ z => by cases z) y
      rw [List.getElem?_map] at ed
      obtain ⟨a, ea, rfl⟩ := Option.map_eq_some_iff.mp ed
      rw [List.append_nil] at rx
      exact ps i a x σ' H'' ea (pm i σ' H' H'' p k4) rx
/-! one turn -/
theorem lcb_all {i : Nat} {x : V} (he : PuE K T l te ((wipe σ vs).set i (some x)) H e) (hw : wipe ((wipe σ vs).set i (some x)) vs = wipe σ vs := by rfl) : LcB K T l (gName i) tYes te vs σ H x (some e) :=
  ⟨_, fun _ q => q, hw, true, pt_yes, .inl ⟨rfl, e, he, rfl⟩⟩
theorem lcb_if {i : Nat} {x : V} {b : Bool} (ht : PuT T tt ((wipe σ vs).set i (some x)) H b) (he : b = true → PuE K T l te ((wipe σ vs).set i (some x)) H e) (hw : wipe ((wipe σ vs).set i (some x)) vs = wipe σ vs := by rfl) : LcB K T l (gName i) tt te vs σ H x (if b then some e else none) := by
  refine ⟨_, fun _ q => q, hw, b, ht, ?_⟩
  cases b with
  | true => exact .inl ⟨rfl, e, he rfl, rfl⟩
  | false => exact .inr ⟨rfl, rfl⟩
/-- the target is a tuple of three names -/
theorem lcb_tup3 {i j m : Nat} {x : V} {d1 d2 d3 : PyData} (hx : Rp K (off l H) x (.tuple [d1, d2, d3])) (he : ∀ v1 v2 v3, Rp K (off l H) v1 d1 → Rp K (off l H) v2 d2 → Rp K (off l H) v3 d3 → PuE K T l te ((((wipe σ vs).set i (some v1)).set j (some v2)).set m (some v3)) H e)
    (hw : ∀ v1 v2 v3, wipe ((((wipe σ vs).set i (some v1)).set j (some v2)).set m (some v3)) vs = wipe σ vs := by intro _ _ _; rfl) : LcB K T l (gTup K 3 (gCons (gName i) (gCons (gName j) (gCons (gName m) gNil)))) tYes te vs σ H x (some e) := by
  obtain ⟨a, xs, rfl, e1, r⟩ := hx.tup_inv
  cases r with
  | cons q1 r =>
  cases r with
  | cons q2 r =>
  cases r with
  | cons q3 r =>
  cases r
  exact ⟨_, fun _ q => ⟨a, _, rfl, Ke.off.tq e1, rfl, _, _, rfl, _, _, rfl, _, _, rfl, rfl, q⟩, hw _ _ _, true, pt_yes, .inl ⟨rfl, e, he _ _ _ q1 q2 q3, rfl⟩⟩
end
end Sky
set_option Elab.async false
set_option linter.all false
set_option maxRecDepth 100000
set_option maxHeartbeats 1000000
namespace Sky
open PySem PySem.Spec PyProof.Rows L2 LamX NdefX
/-- the list of spaces so far, at F -/
structure Ot (K : PySem.W.Frag) (T : List NTab) (l : List Addr) (st sc F : Addr) (H0 : Hp) (b n : Nat) (H' : Hp) : Prop where
  s : StrAt b st sc H'
  k : Kp T [F, st, sc] H0 H'
  f : ∃ (xs : List V) (Ss : List SpD), H' F = some (.lst xs) ∧ RpA K (off l H') xs (Ss.map spD) ∧ (∀ S' ∈ Ss, OkSp S'.rooms S'.homes S'.lanes) ∧ Ss.length ≤ n
section
variable {K : PySem.W.Frag} {T : List NTab} {l : List Addr} {st sc F : Addr} {H0 H1 H2 : Hp} {b c n m : Nat}
theorem Ot.new (O : Ot K T l st sc F H0 b n H1) (k : Kp T [] H1 H2) : Ot K T l st sc F H0 b n H2 := by
  obtain ⟨s, k0, xs, Ss, f1, f2, f3⟩ := O
  exact ⟨s.kp k (by simp) (by simp), k0.trans (k.mono (by simp)), xs, Ss, k.lst (by simp) f1, f2.kp k, f3⟩
theorem Ot.str (O : Ot K T l st sc F H0 b n H1) (hst : ∀ x ∈ [st, sc], x ∈ l) (n1 : F ≠ st) (n2 : F ≠ sc) (k : Kp T [st, sc] H1 H2) (s' : StrAt c st sc H2) : Ot K T l st sc F H0 c n H2 := by
  obtain ⟨s, k0, xs, Ss, f1, f2, f3⟩ := O
  exact ⟨s', k0.trans (k.mono (by simp)), xs, Ss, k.lst (by simp [n1, n2]) f1, f2.kpl k hst, f3⟩
theorem Ot.mono (O : Ot K T l st sc F H0 b n H1) (h : b ≤ c) (h2 : n ≤ m) : Ot K T l st sc F H0 c m H1 := by
  obtain ⟨s, k0, xs, Ss, f1, f2, f3, f4⟩ := O
  exact ⟨s.mono h, k0, xs, Ss, f1, f2, f3, Nat.le_trans f4 h2⟩
theorem Ot.ext_rd {i : Nat} {σ : L2.St} {te : TE} {D : Ends} {Ts : List SpD} (O : Ot K T l st sc F H0 b n H1) (hF : F ∈ l) (n1 : F ≠ st) (n2 : F ≠ sc) (hs : σ[i]? = some (some (.ref F))) (h : PuE K T l te σ H1 (.list (Ts.map spD))) (ok : ∀ S' ∈ Ts, OkSp S'.rooms S'.homes S'.lanes) (hn : n + Ts.length ≤ m) (hm : m ≤ 20)
    (k : ∀ H2, Ot K T l st sc F H0 b m H2 → Kp T [F] H1 H2 → D.nx σ H2) : tDrop (tBM K "list" rExtend (tVar i) (tCons te tNil)) D σ H1 := by
  obtain ⟨s, k0, xs, Ss, f1, f2, f3, f4⟩ := O
  have hl := f2.length
  rw [List.length_map] at hl
  refine st_ext hF hs f1 f2 (by rw [List.length_map]; omega) h fun ys H2 k2 e r => k H2 ⟨s.kp k2 (by simp [n1.symm]) (by simp [n2.symm]), k0.trans (k2.mono (by simp)), xs ++ ys, Ss ++ Ts, e, by rw [List.map_append]; exact r, fun S' hS => (List.mem_append.mp hS).elim (f3 S') (ok S'), by rw [List.length_append]; omega⟩ k2
theorem Ot.app_rd {i : Nat} {σ : L2.St} {te : TE} {D : Ends} {S1 : SpD} (O : Ot K T l st sc F H0 b n H1) (hF : F ∈ l) (n1 : F ≠ st) (n2 : F ≠ sc) (hs : σ[i]? = some (some (.ref F))) (h : PuE K T l te σ H1 (spD S1)) (ok : OkSp S1.rooms S1.homes S1.lanes) (hn : n < 20)
    (k : ∀ H2, Ot K T l st sc F H0 b (n + 1) H2 → Kp T [F] H1 H2 → D.nx σ H2) : tDrop (tBM K "list" rAppend (tVar i) (tCons te tNil)) D σ H1 := by
  obtain ⟨s, k0, xs, Ss, f1, f2, f3, f4⟩ := O
  have hl := f2.length
  rw [List.length_map] at hl
  refine st_app hF hs f1 f2 (by omega) h fun v H2 k2 e r => k H2 ⟨s.kp k2 (by simp [n1.symm]) (by simp [n2.symm]), k0.trans (k2.mono (by simp)), xs ++ [v], Ss ++ [S1], e, by rw [List.map_append]; exact r, fun S' hS => (List.mem_append.mp hS).elim (f3 S') (fun z => by cases List.mem_singleton.mp z; exact ok), by rw [List.length_append]; exact Nat.succ_le_succ f4⟩ k2
end
section
variable {P : Program} {w : World} {K : PySem.W.Frag} {mg : Str → Option Value} {base : Heap} {T : List NTab} {C : Addr}
abbrev s_others : Stmt := top 31
abbrev n_others : List Str := ["stream", "space", "rooms", "homes", "lanes", "spare", "found", "corridor", "at", "one", "other", "cost", "back", "old", "over", "more", "idle", "name", "home", "lane"]
theorem sc_others : FnScope n_others ["stream", "space"] (defScope s_others) := ⟨rfl, rfl, rfl, by decide +kernel, rfl, by decide +kernel, by decide +kernel⟩
theorem d_others (B : Blt mg) (Gn : DefOk P w K mg base 3 "_law_names" (sp_names K T)) (Gm : DefOk P w K mg base 2 "_law_mixed" (sp_mixed K T)) (Gd : DefOk P w K mg base 1 "_law_draw" (sp_draw K T)) (Gp : DefOk P w K mg base 2 "_law_pick" (sp_pick K T)) (F : TopFn K mg "_law_others" s_others) : DefOk P w K mg base 6 "_law_others" (sp_others K T) := by
  refine F.ok sc_others (fun _ _ _ _ _ _ us hl => match us, hl with | [_, _], _ => rfl) (fun vs H Q E h => ?_) (fun f cdv A outer s H vs Q E hr h => ?_)
  · obtain ⟨st, sc, l, v, S, b, N, rfl, _⟩ := h
    rfl
  · obtain ⟨st, sc, l, v, S, b, N, rfl, hS, hL, hx, ok, sh, ⟨z1, z2, z3⟩, hN, hb, k⟩ := h
    refine ⟨_, (pss_cons (ps_asg (pv 1) (pg_tup rfl (pgs_cons (pg_name (i := 2) sc_others.nd rfl (Or.inr rfl)) (pgs_cons (pg_name (i := 3) sc_others.nd rfl (Or.inr rfl)) (pgs_cons (pg_name (i := 4) sc_others.nd rfl (Or.inr rfl)) pgs_nil)))))
      (pss_cons (ps_setLc (i := 5) (own := [("name", 17)]) (g := gName 17) (tt := tAnd (tB (tDNotIn (tVar 17) (tVar 2))) (tTest (tOp (rIn K true) (tVar 17) (tVar 3)))) (by rfl) sc_others.nd rfl rfl (sw_true rfl rfl rfl (by decide +kernel)) (pi_seq (pe_d Gn hr (pa_cons (pv 0) (pa_cons pe_int pa_nil)))) (blkOk_by (N := n_others) (sc := defScope s_others) (by decide +kernel)) (fun _ _ _ _ _ => (pg_name (i := 17) sc_others.nd rfl (Or.inl rfl))) (fun _ _ _ _ _ => (pts_one (PW.pt (pw_and (pt_cmp (pc_dnotin (hu_of hr) (pv 17) (pv 2))) (pw_and1 (pt_cmpR op_notIn_seq (pv 17) (pv 3) (by with_unfolding_all rfl))))))) (fun _ _ _ _ _ => (pv 17)))
      (pss_cons (ps_setLc (i := 6) (own := [("name", 17)]) (g := gName 17) (tt := tYes) (by rfl) sc_others.nd rfl rfl (sw_true rfl rfl rfl (by decide +kernel)) (pi_seq (pe_slice sl_list (pv 5) po_none (po_some pe_int))) (blkOk_by (N := n_others) (sc := defScope s_others) (by decide +kernel)) (fun _ _ _ _ _ => (pg_name (i := 17) sc_others.nd rfl (Or.inl rfl))) (fun _ _ _ _ _ => pts_nil) (fun _ _ _ _ _ => (pe_tup (pa_cons (pv 2) (pa_cons (pe_op op_cat (pv 3) (pe_lst (pa_cons (pv 17) pa_nil))) (pa_cons (pv 4) pa_nil))))))
      (pss_cons (ps_expr (pe_bm PySem.F.plainAttrs_list PySem.F.slot_list_extend PySem.F.type_list_extend mt_extend (pv 6) (pa_cons (pe_lc (own := [("name", 17)]) (g := gName 17) (tt := tYes) (te := tTup (tCons (tCB (rDictP K) (tCons (tOp rCat (LiI.tListItems (tVar 2)) (tLst (tCons (tTup (tCons (tVar 17) (tCons (tC (.int 1)) tNil))) tNil))) tNil)) (tCons (tVar 3) (tCons (tVar 4) tNil)))) (by rfl) sc_others.nd (pi_seq (pe_slice sl_list (pv 5) po_none (po_some pe_int))) (blkOk_by (N := n_others) (sc := defScope s_others) (by decide +kernel)) (fun _ _ _ _ _ => (pg_name (i := 17) sc_others.nd rfl (Or.inl rfl))) (fun _ _ _ _ _ => pts_nil) (fun _ _ _ _ _ => (pe_tup (pa_cons (e_dict B (pa_cons (pe_op op_cat (LiI.pe_listItems rfl (pv 2) (by rfl) B.list (by decide +kernel)) (pe_lst (pa_cons (pe_tup (pa_cons (pv 17) (pa_cons pe_int pa_nil))) pa_nil))) pa_nil)) (pa_cons (pv 3) (pa_cons (pv 4) pa_nil)))))) pa_nil)))
      (pss_cons (ps_for PassesOwn.never rfl (pi_seq (pe_slice sl_list (pe_d Gm hr (pa_cons (pv 0) (pa_cons (e_sorted B (pa_cons (pv 2) pa_nil) hr.units) pa_nil))) po_none (po_some pe_int))) (pg_name (i := 7) sc_others.nd rfl (Or.inl rfl)) (pss_one (ps_expr (pe_bm PySem.F.plainAttrs_list PySem.F.slot_list_append PySem.F.type_list_append mt_append (pv 6) (pa_cons (pe_tup (pa_cons (e_dict B (pa_cons (pe_op op_cat (LiI.pe_listItems rfl (pv 2) (by rfl) B.list (by decide +kernel)) (pe_lst (pa_cons (pe_tup (pa_cons (pv 7) (pa_cons (pe_op op_add (pe_dget (hu_of hr) (pv 2) (pv 7) (fun _ _ => rfl)) pe_int) pa_nil))) pa_nil))) pa_nil)) (pa_cons (pv 3) (pa_cons (pv 4) pa_nil)))) pa_nil)))))
      (pss_cons (ps_set (i := 8) sc_others.nd rfl (Or.inl rfl) (pe_d Gd hr (pa_cons (pv 0) (pa_cons (pe_op op_add (e_len B (pa_cons (pv 4) pa_nil)) pe_int) pa_nil))))
      (Evl.pss_cut (ps_if (pt_cmpR op_lt (pv 8) (e_len B (pa_cons (pv 4) pa_nil)) (nomark _)) (pss_cons (ps_asg (pe_ix ix_seq (pv 4) (pv 8) (fun _ _ => rfl)) (pg_tup rfl (pgs_cons (pg_name (i := 9) sc_others.nd rfl (Or.inr rfl)) (pgs_cons (pg_name (i := 10) sc_others.nd rfl (Or.inr rfl)) (pgs_cons (pg_name (i := 11) sc_others.nd rfl (Or.inl rfl)) pgs_nil)))))
      (pss_cons (ps_expr (pe_bm PySem.F.plainAttrs_list PySem.F.slot_list_append PySem.F.type_list_append mt_append (pv 6) (pa_cons (pe_tup (pa_cons (pv 2) (pa_cons (pv 3) (pa_cons (pe_op op_cat (pe_slice sl_list (pv 4) po_none (po_some (pv 8))) (pe_slice sl_list (pv 4) (po_some (pe_op op_add (pv 8) pe_int)) po_none)) pa_nil)))) pa_nil)))
      (pss_cons (ps_expr (pe_bm PySem.F.plainAttrs_list PySem.F.slot_list_append PySem.F.type_list_append mt_append (pv 6) (pa_cons (pe_tup (pa_cons (pv 2) (pa_cons (pv 3) (pa_cons (pe_op op_cat (pe_op op_cat (pe_slice sl_list (pv 4) po_none (po_some (pv 8))) (pe_lst (pa_cons (pe_tup (pa_cons (pv 9) (pa_cons (pv 10) (pa_cons (pe_op op_add (pv 11) pe_int) pa_nil)))) pa_nil))) (pe_slice sl_list (pv 4) (po_some (pe_op op_add (pv 8) pe_int)) po_none)) pa_nil)))) pa_nil)))
      (pss_cons (ps_set (i := 12) sc_others.nd rfl (Or.inl rfl) (pe_ifExp (PW.pt (pw_and (pt_cmp (pc_din (hu_of hr) (pv 10) (pv 2))) (pw_and1 (pt_val (e_all B (pa_cons (pe_lc (own := [("lane", 19)]) (g := gName 19) (tt := tYes) (te := tOp (rNeD K) (tSl (rSlT K) (tVar 19) tNoPart (tPart (tC (.int 2)))) (tTup (tCons (tVar 10) (tCons (tVar 9) tNil)))) (by rfl) sc_others.nd (pi_seq (pv 4)) (blkOk_by (N := n_others) (sc := defScope s_others) (by decide +kernel)) (fun _ _ _ _ _ => (pg_name (i := 19) sc_others.nd rfl (Or.inl rfl))) (fun _ _ _ _ _ => pts_nil) (fun _ _ _ _ _ => (pe_cmpR (op_neD hr.units) (pe_slice sl_tup (pv 19) po_none (po_some pe_int)) (pe_tup (pa_cons (pv 10) (pa_cons (pv 9) pa_nil))) (nomark _)))) pa_nil)))))) (pe_lst (pa_cons (pe_tup (pa_cons (pv 10) (pa_cons (pv 9) (pa_cons (pv 11) pa_nil)))) pa_nil)) (pe_lst pa_nil)))
      (pss_one (ps_expr (pe_bm PySem.F.plainAttrs_list PySem.F.slot_list_extend PySem.F.type_list_extend mt_extend (pv 6) (pa_cons (pe_ifExp (pt_cmpR (op_neD hr.units) (pv 12) (pe_lst pa_nil) (nomark _)) (pe_lst (pa_cons (pe_tup (pa_cons (pv 2) (pa_cons (pv 3) (pa_cons (e_sorted B (pa_cons (pe_op op_cat (pe_op op_cat (pe_slice sl_list (pv 4) po_none (po_some (pv 8))) (pv 12)) (pe_slice sl_list (pv 4) (po_some (pe_op op_add (pv 8) pe_int)) po_none)) pa_nil) hr.units) pa_nil)))) pa_nil)) (pe_lst pa_nil)) pa_nil)))))))) pss_nil)
      (pss_cons (ps_for PassesOwn.never rfl (pi_seq (pe_op op_cat (pe_slice sl_list (pe_d Gm hr (pa_cons (pv 0) (pa_cons (e_sorted B (pa_cons (pv 2) pa_nil) hr.units) pa_nil))) po_none (po_some pe_int)) (pe_slice sl_list (pe_d Gm hr (pa_cons (pv 0) (pa_cons (pv 3) pa_nil))) po_none (po_some pe_int)))) (pg_name (i := 13) sc_others.nd rfl (Or.inl rfl)) (pss_cons (ps_set (i := 14) sc_others.nd rfl (Or.inr rfl) (e_dict B (pa_cons (pe_op op_cat (pe_lc (own := [("name", 17)]) (g := gName 17) (tt := tYes) (by rfl) sc_others.nd (pi_seq (pe_op op_cat (e_listX B (pa_cons (pv 2) pa_nil)) (pv 3))) (blkOk_by (N := n_others) (sc := defScope s_others) (by decide +kernel)) (fun _ _ _ _ _ => (pg_name (i := 17) sc_others.nd rfl (Or.inl rfl))) (fun _ _ _ _ _ => pts_nil) (fun _ _ _ _ _ => (pe_tup (pa_cons (pv 17) (pa_cons (pv 17) pa_nil))))) (pe_lst (pa_cons (pe_tup (pa_cons (pv 13) (pa_cons (pe_d Gp hr (pa_cons (pv 0) (pa_cons (pe_lst (pa_cons pe_str (pa_cons pe_str pa_nil))) pa_nil))) pa_nil))) pa_nil))) pa_nil)))
      (pss_cons (ps_setLc (i := 15) (own := [("one", 9), ("other", 10), ("cost", 11)]) (g := gTup K 3 (gCons (gName 9) (gCons (gName 10) (gCons (gName 11) gNil)))) (tt := tYes) (by rfl) sc_others.nd rfl rfl (sw_true rfl rfl rfl (by decide +kernel)) (pi_seq (pv 4)) (blkOk_by (N := n_others) (sc := defScope s_others) (by decide +kernel)) (fun _ _ _ _ _ => (pg_tup rfl (pgs_cons (pg_name (i := 9) sc_others.nd rfl (Or.inl rfl)) (pgs_cons (pg_name (i := 10) sc_others.nd rfl (Or.inl rfl)) (pgs_cons (pg_name (i := 11) sc_others.nd rfl (Or.inl rfl)) pgs_nil))))) (fun _ _ _ _ _ => pts_nil) (fun _ _ _ _ _ => (pe_tup (pa_cons (pe_dget (hu_of hr) (pv 14) (pv 9) (fun _ _ => rfl)) (pa_cons (pe_dget (hu_of hr) (pv 14) (pv 10) (fun _ _ => rfl)) (pa_cons (pv 11) pa_nil))))))
      (pss_one (ps_expr (pe_bm PySem.F.plainAttrs_list PySem.F.slot_list_append PySem.F.type_list_append mt_append (pv 6) (pa_cons (pe_tup (pa_cons (e_dict B (pa_cons (pe_lock (pe_lc (own := [("one", 9)]) (g := gName 9) (tt := tYes) (by rfl) sc_others.nd (pi_keys (pv 2)) (blkOk_by (N := n_others) (sc := defScope s_others) (by decide +kernel)) (fun _ _ _ _ _ => (pg_name (i := 9) sc_others.nd rfl (Or.inl rfl))) (fun _ _ _ _ _ => pts_nil) (fun _ _ _ _ _ => (pe_tup (pa_cons (pe_dget (hu_of hr) (pv 14) (pv 9) (fun _ _ => rfl)) (pa_cons (pe_dget (hu_of hr) (pv 2) (pv 9) (fun _ _ => rfl)) pa_nil)))))) pa_nil)) (pa_cons (pe_lc (own := [("one", 9)]) (g := gName 9) (tt := tYes) (by rfl) sc_others.nd (pi_seq (pv 3)) (blkOk_by (N := n_others) (sc := defScope s_others) (by decide +kernel)) (fun _ _ _ _ _ => (pg_name (i := 9) sc_others.nd rfl (Or.inl rfl))) (fun _ _ _ _ _ => pts_nil) (fun _ _ _ _ _ => (pe_dget (hu_of hr) (pv 14) (pv 9) (fun _ _ => rfl)))) (pa_cons (pv 15) pa_nil)))) pa_nil)))))))
      (pss_cons (ps_setLc (i := 16) (own := [("home", 18)]) (g := gName 18) (tt := tB (tCB (rAll K) (tCons (tLc (iSeq K (tVar 4)) (gName 19) tYes (tOp rNe (tOp (rIx K) (tVar 19) (tC (.int 1))) (tVar 18)) [19]) tNil))) (by rfl) sc_others.nd rfl rfl (sw_true rfl rfl rfl (by decide +kernel)) (pi_seq (pv 3)) (blkOk_by (N := n_others) (sc := defScope s_others) (by decide +kernel)) (fun _ _ _ _ _ => (pg_name (i := 18) sc_others.nd rfl (Or.inr rfl))) (fun _ _ _ _ _ => (pts_one (pt_val (e_all B (pa_cons (pe_lc (own := [("lane", 19)]) (g := gName 19) (tt := tYes) (te := tOp rNe (tOp (rIx K) (tVar 19) (tC (.int 1))) (tVar 18)) (by rfl) sc_others.nd (pi_seq (pv 4)) (blkOk_by (by rfl)) (fun _ _ _ _ _ => (pg_name (i := 19) sc_others.nd rfl (Or.inl rfl))) (fun _ _ _ _ _ => pts_nil) (fun _ _ _ _ _ => (pe_cmpR op_ne (pe_ix ix_seq (pv 19) pe_int (fun _ _ => rfl)) (pv 18) (nomark _)))) pa_nil))))) (fun _ _ _ _ _ => (pv 18)))
      (pss_one (ps_ret (pe_op op_cat (pv 6) (pe_lc (own := [("home", 18)]) (g := gName 18) (tt := tYes) (te := tTup (tCons (tVar 2) (tCons (tLc (iSeq K (tVar 3)) (gName 9) (tTest (tOp rNe (tVar 9) (tVar 18))) (tVar 9) [9]) (tCons (tVar 4) tNil)))) (by rfl) sc_others.nd (pi_seq (pe_slice sl_list (pv 16) po_none (po_some pe_int))) (blkOk_by (N := n_others) (sc := defScope s_others) (by decide +kernel)) (fun _ _ _ _ _ => (pg_name (i := 18) sc_others.nd rfl (Or.inr rfl))) (fun _ _ _ _ _ => pts_nil) (fun _ _ _ _ _ => (pe_tup (pa_cons (pv 2) (pa_cons (pe_lc (own := [("one", 9)]) (g := gName 9) (by rfl) sc_others.nd (pi_seq (pv 3)) (blkOk_by (by rfl)) (fun _ _ _ _ _ => (pg_name (i := 9) sc_others.nd rfl (Or.inl rfl))) (fun _ _ _ _ _ => (pts_one (pt_cmpR op_ne (pv 9) (pv 18) (nomark _)))) (fun _ _ _ _ _ => (pv 9))) (pa_cons (pv 4) pa_nil)))))))))))))))))), ?_⟩
    obtain ⟨a, r1, r2, r3, ls, rfl, h0, h1, h2, h3, h4⟩ := rp_spD hx
    have th : Th l H := hL.there
    refine ⟨_, rfl, a, _, rfl, Ke.off.tq h0, rfl, _, _, rfl, _, _, rfl, _, _, rfl, rfl, ?_⟩
    have rR : Rp K (off l H) (.ref r1) (dV PyData.int S.rooms) := .dct h1 (rpD_rm _)
    have rH : Rp K (off l H) (.ref r2) (.list (S.homes.map .str)) := .lst h2 (rpA_strs _)
    have rL : Rp K (off l H) (.ref r3) (.list (S.lanes.map lnD)) := .lst h3 h4
    clear h0 h1 h2 h3 h4 hx
    -- spare
    refine rd_next ?_
    dsimp only
    refine rd_seq (rd_asg (lc_call ?_))
    refine ⟨_, rfl, st, sc, 3, b, rfl, hS, by decide, by omega, fun L ns H1 hL0 k1 hL1 n1 n2 hlen hnd hnm S1 => ?_⟩
    have stl : ∀ x ∈ [st, sc], x ∈ l := fun x hx => by
      rcases List.mem_cons.mp hx with rfl | hx
      · exact hL.st
      · cases List.mem_singleton.mp hx
        exact hL.sc
    have rN : Rp K (off l H1) (.ref L) (.list (ns.map .str)) := .lst (off_some (th.new hL0) hL1) (rpA_strs _)
    have rR1 := rR.kpl k1 stl
    have rH1 := rH.kpl k1 stl
    have rL1 := rL.kpl k1 stl
    have th1 := th.kp k1
    refine pu_lcF (as := ns) (fa := PyData.str) (T := T) (l := l) th1 (pi_of (t := true) (pu_val rN)) (fun z => (!decide (z ∈ S.rooms.map (·.1))) && (!decide (z ∈ S.homes))) (fun z x H2 l1 hz k2 t2 lift rx => ?_) H1 Kp.refl _ fun vS H2 k2 rS => ?_
    · exact lcb_if (pt_and (pt_b (pu_dnotin (pu_var rfl rx) (pu_var rfl (lift _ _ rR1)))) fun _ => pt_test (pu_inS (neg := true) (t := true) (pu_var rfl rx) (pu_var rfl (lift _ _ rH1)))) fun _ => pu_var rfl rx
    generalize hsp : ns.filter (fun z => (!decide (z ∈ S.rooms.map (·.1))) && (!decide (z ∈ S.homes))) = spare at rS
    have hsp' : ∀ z ∈ spare, nmS z = true ∧ z ∉ S.rooms.map (·.1) ∧ z ∉ S.homes := fun z hz => by
      rw [← hsp] at hz
      obtain ⟨q1, q2⟩ := List.mem_filter.mp hz
      simp at q2
      exact ⟨(hnm z q1).1, by simpa using q2.1, q2.2⟩
    have rR2 := rR1.kp k2
    have rH2 := rH1.kp k2
    have rL2 := rL1.kp k2
    have th2 := th1.kp k2
    have S2 := S1.kp k2 (by simp) (by simp)
    have k02 : Kp T [st, sc] H H2 := k1.trans (k2.mono (by simp))
    clear k1 k2 rR1 rH1 rL1 th1 S1 rN hL1 hlen hnd hnm hsp hL0 n1 n2 rR rH rL
    -- found
    refine rd_next ?_
    dsimp only
    refine rd_seq (rd_asg ?_)
    have tk1 : ∀ z ∈ spare.take 1, z ∈ spare := fun z hz => List.mem_of_mem_take hz
    refine pu_lcN (as := spare.take 1) (fa := PyData.str) (fb := spD) (T := T) (l := l) th2 (pi_of (t := true) ((pu_take (k := 1) th2 (pu_var rfl rS) pu_int).is (by rw [List.map_take]; rfl))) (fun z => some ⟨S.rooms, S.homes ++ [z], S.lanes⟩) (fun z x H3 l1 hz k3 t3 lift rx => ?_) fun F xs H3 hF k3 hF3 rF => ?_
    · refine lcb_all (pu_tup t3 (pua_cons (pu_var rfl (lift _ _ rR2)) (pua_cons (d := .list ((S.homes ++ [z]).map .str)) ((pu_cat t3 (pu_var rfl (lift _ _ rH2)) (pu_lst t3 (pua_cons (pu_var rfl rx) pua_nil)) ?_).is (by rw [List.map_append]; rfl)) (pua_cons (pu_var rfl (lift _ _ rL2)) pua_nil))))
      rw [List.length_map]
      show S.homes.length + 1 ≤ _
      omega
    have n1 : F ≠ st := none_ne S2.some.1.choose_spec hF
    have n2 : F ≠ sc := none_ne S2.some.2.choose_spec hF
    obtain ⟨l2, el2⟩ : ∃ l2, l2 = l ++ [F] := ⟨_, rfl⟩
    have hFl : F ∈ l2 := by rw [el2]; simp
    have stl2 : ∀ x ∈ [st, sc], x ∈ l2 := fun x hx => by rw [el2]; exact List.mem_append_left _ (stl x hx)
    have fnew : ∀ a ∈ [F], H2 a = none := fun a ha => by cases List.mem_singleton.mp ha; exact hF
    have lft : ∀ {v d}, Rp K (off l H2) v d → Rp K (off l2 H3) v d := fun r => el2 ▸ r.ke (ke_newF (k3.mono (by simp)) fnew)
    have rR := lft rR2
    have rH := lft rH2
    have rL := lft rL2
    have rS := lft rS
    have th3 : Th l2 H3 := fun a ha => by
      rw [el2] at ha
      rcases List.mem_append.mp ha with h | h
      · exact th2.kp k3 a h
      · cases List.mem_singleton.mp h
        rw [hF3]; simp
    have S3 := S2.kp k3 (by simp) (by simp)
    have O3 : Ot K T l2 st sc F H3 (b + 15) 1 H3 := by
      refine ⟨S3, Kp.refl, xs, _, hF3, by rw [el2]; exact rF, fun S' hS => ?_, ?_⟩
      · obtain ⟨z, hz, ez⟩ := List.mem_filterMap.mp hS
        cases ez
        obtain ⟨q1, q2, q3⟩ := hsp' z (tk1 z hz)
        exact ok_home ok q1 q2 q3 (by omega)
      · refine Nat.le_trans (List.length_filterMap_le _ _) ?_
        rw [List.length_take]
        omega
    have k03 : Kp T [st, sc] H H3 := k02.trans (k3.mono (by simp))
    have hF0 : H F = none := k02.n F hF
    have keep : ∀ {n b' H' v d}, Ot K T l2 st sc F H3 b' n H' → Rp K (off l2 H3) v d → Rp K (off l2 H') v d := fun O r => r.kpl O.k (by
      intro x hx
      rcases List.mem_cons.mp hx with rfl | hx
      · exact hFl
      · exact stl2 x hx)
    have thk : ∀ {n b' H'}, Ot K T l2 st sc F H3 b' n H' → Th l2 H' := fun O => th3.kp O.k
    clear rF S3 S2 th2 rR2 rH2 rL2 k02 lft fnew
    -- found.extend(..)
    refine rd_next ?_
    dsimp only
    refine rd_seq ?_
    refine O3.ext_rd (Ts := (spare.take 1).map fun z => ⟨S.rooms ++ [(z, 1)], S.homes, S.lanes⟩) (m := 2) hFl n1 n2 rfl ((pu_lcM (as := spare.take 1) (fa := PyData.str) (fb := spD) (T := T) (l := l2) th3 (pi_of (t := true) ((pu_take (k := 1) th3 (pu_var rfl rS) pu_int).is (by rw [List.map_take]; rfl))) (fun z => (⟨S.rooms ++ [(z, 1)], S.homes, S.lanes⟩ : SpD)) (fun z x H4 l1 hz k4 t4 lift rx => ?_)) ) (fun S' hS => ?_) (by rw [List.length_map, List.length_take]; omega) (by decide) fun H4 O4 k4 => ?_
    · obtain ⟨q1, q2, q3⟩ := hsp' z (tk1 z hz)
      refine lcb_all (pu_tup t4 (pua_cons (d := dV PyData.int (S.rooms ++ [(z, 1)])) ((pu_dict (r := S.rooms ++ [(z, (1 : Int))]) t4 ((pu_cat t4 (pu_items t4 (pu_var rfl (lift _ _ rR))) (pu_lst t4 (pua_cons (pu_tup t4 (pua_cons (pu_var rfl rx) (pua_cons pu_int pua_nil))) pua_nil)) ?_).is (by rw [List.map_append]; rfl))).is ?_) (pua_cons (pu_var rfl (lift _ _ rH)) (pua_cons (pu_var rfl (lift _ _ rL)) pua_nil))))
      · rw [List.length_map]
        show S.rooms.length + 1 ≤ _
        omega
      · rw [mrg_snoc, mrg_nd ok.nd, put1_new q2]
    · obtain ⟨z, hz, rfl⟩ := List.mem_map.mp hS
      obtain ⟨q1, q2, q3⟩ := hsp' z (tk1 z hz)
      exact ok_room ok q1 q2 q3 (by omega)
    clear O3 tk1 hsp' rS
    -- for corridor in _law_mixed(stream, sorted(rooms))[:1]
    refine rd_next ?_
    dsimp only
    refine rd_seq (for_call (sl_call ?_))
    refine ⟨_, rfl, rd_cons (pu_go T (pu_sortedK (thk O4) (pu_var rfl (keep O4 rR))) fun vq H5 k5 rq => ?_)⟩
    obtain ⟨aq, xq, rfl, eq, rqA⟩ := rq.list_inv
    have exq := rpA_strI rqA
    subst exq
    have O5 := O4.new k5
    have lenS : ((srtBy PyData.str (S.rooms.map (·.1))).map V.str).length = S.rooms.length := by rw [List.length_map, (srtBy_perm _ _).length_eq, List.length_map]
    refine ⟨st, sc, aq, b + 15, _, rfl, O5.s, .inl (SqL.of (off_some (fun z => (of_off eq).1 (stl2 _ z)) (of_off eq).2)), by rw [lenS]; omega, by rw [lenS]; omega, fun p1 ys H6 hp1 perm k6 hp1' np1 np2 s6 => ?_⟩
    rw [lenS] at s6
    obtain ⟨nm6, pm6, rfl⟩ := perm_map_inv perm rfl
    have O6 : Ot K T l2 st sc F H3 (b + 15 + N) 2 H6 := O5.str stl2 n1 n2 k6 (s6.mono (by omega))
    have in6 : ∀ c ∈ nm6, c ∈ S.rooms.map (·.1) := fun c hc => (srtBy_perm _ _).mem_iff.mp (pm6.mem_iff.mp hc)
    have r6 : Rp K (off l2 H6) (.ref p1) (.list (nm6.map .str)) := .lst (off_some ((thk O5).new hp1) hp1') (rpA_strs _)
    refine pu_go T (pu_take (k := 1) (thk O6) (pu_val r6) pu_int) fun vT H7 k7 rT => ?_
    rw [← List.map_take] at rT
    have O7 := O6.new k7
    clear O4 O5 O6 k4 k5 k6 k7 rq rqA eq s6 perm pm6 hp1 hp1' np1 np2 r6 lenS
    refine for_T (as := nm6.take 1) (fa := PyData.str) (T := T) (l := l2) (pi_of (t := true) (pu_val rT)) fun H8 k8 => ⟨fun i σ' H' => (∃ z, σ' = [some (.ref st), some (.ref a), some (.ref r1), some (.ref r2), some (.ref r3), some vS, some (.ref F), z, none, none, none, none, none, none, none, none, none, none, none, none]) ∧ Ot K T l2 st sc F H3 (b + 15 + N) (2 + i) H' ∧ Kp T [F] H8 H', ⟨⟨_, rfl⟩, O7.new k8, Kp.refl⟩, fun i σ' H' p => ⟨[F], (fun x hx => by cases List.mem_singleton.mp hx; exact hFl), p.2.2⟩, fun i σ' H' H'' p k' => ⟨p.1, p.2.1.new k', p.2.2.trans (k'.mono (by simp))⟩, fun i c x σ' H' ec p rx => ?_, fun σ' H' p => ?_⟩
    · obtain ⟨⟨z, rfl⟩, O', kF⟩ := p
      have hc := in6 c (List.mem_of_mem_take (List.mem_of_getElem? ec))
      have hi1 : i < 1 := by
        have := (List.getElem?_eq_some_iff.mp ec).1
        rw [List.length_take] at this
        omega
      obtain ⟨ci, eci⟩ : ∃ ci, sget S.rooms c = some ci := by
        have q := sget_mem (r := S.rooms) (n := c)
        rw [decide_eq_true hc] at q
        exact Option.isSome_iff_exists.mp q
      have hci : 0 < ci := (ok.nm _ (rget_in (r := S.rooms) (n := c) (i := ci) eci)).2
      have t' := thk O'
      refine O'.app_rd (S1 := ⟨S.rooms.map fun p => if p.1 = c then (p.1, ci + 1) else p, S.homes, S.lanes⟩) hFl n1 n2 rfl (pu_tup t' (pua_cons (d := dV PyData.int (S.rooms.map fun p => if p.1 = c then (p.1, ci + 1) else p)) ((pu_dict (r := S.rooms ++ [(c, ci + 1)]) t' ((pu_cat t' (pu_items t' (pu_var rfl (keep O' rR))) (pu_lst t' (pua_cons (pu_tup t' (pua_cons (pu_var rfl rx) (pua_cons (pu_addI (pu_dget (enc := PyData.int) (pu_var rfl (keep O' rR)) (pu_var rfl rx) eci) pu_int) pua_nil))) pua_nil)) ?_).is (by rw [List.map_append]; rfl))).is ?_) (pua_cons (pu_var rfl (keep O' rH)) (pua_cons (pu_var rfl (keep O' rL)) pua_nil)))) (ok_more ok (by omega)) (by omega) fun H9 O9 k9 => ⟨⟨_, rfl⟩, O9, kF.trans k9⟩
      · rw [List.length_map]
        show S.rooms.length + 1 ≤ _
        omega
      · rw [mrg_snoc, mrg_nd ok.nd, put1_old hc]
    obtain ⟨⟨z7, rfl⟩, O8, -⟩ := p
    have O8 := O8.mono (Nat.le_refl _) (by rw [List.length_take]; omega : 2 + (nm6.take 1).length ≤ 3)
    clear O7 in6 rT
    -- at = _law_draw(stream, len(lanes) + 1)
    dsimp only
    refine rd_seq (rd_asg ?_)
    refine ⟨_, rfl, rd_cons (pu_go T (pu_addI (pu_len (t := true) (pu_var rfl (keep O8 rL))) pu_int) fun v9 H9 k9 r9 => ?_)⟩
    have O9 := O8.new k9
    rw [r9.int_inv, List.length_map]
    refine ⟨st, sc, _, b + 15 + N, rfl, O9.s, by omega, by omega, by omega, fun r H10 q0 q1 k10 s10 => ?_⟩
    obtain ⟨at_, rfl⟩ : ∃ at_ : Nat, r = (at_ : Int) := ⟨r.toNat, by omega⟩
    have O10 := O9.str stl2 n1 n2 k10 s10
    have q1 : at_ ≤ S.lanes.length := by omega
    clear O8 O9 k9 k10 s10 r9 q0
    refine rd_next ?_
    dsimp only
    refine ⟨fun σ H' => (∃ z7 z9 z10 z11 z12, σ = [some (.ref st), some (.ref a), some (.ref r1), some (.ref r2), some (.ref r3), some vS, some (.ref F), z7, some (.int (at_ : Int)), z9, z10, z11, z12, none, none, none, none, none, none, none]) ∧ Ot K T l2 st sc F H3 (b + 15 + N + 1) 6 H', ?_, ?_⟩
    · refine pt_go T (pt_test (pu_ltI (pu_var rfl (.int _)) (pu_len (t := true) (pu_var rfl (keep O10 rL))))) fun H11 k11 => ?_
      have O11 := O10.new k11
      rw [List.length_map]
      refine ite2 (fun hlt => ?_) (fun _ => ⟨⟨_, _, _, _, _, rfl⟩, O11.mono (Nat.le_refl _) (by omega)⟩)
      have hlt : at_ < S.lanes.length := by have := of_decide_eq_true hlt; omega
      obtain ⟨p, ep⟩ : ∃ p, S.lanes[at_]? = some p := ⟨_, List.getElem?_eq_getElem hlt⟩
      have hp : p ∈ S.lanes := List.mem_of_getElem? ep
      have hpl := ok.ln p hp
      have hn1 : nmS p.1 = true := nm_room ok hpl.1
      have hn2 : nmS p.2.1 = true := nm_end ok hpl.2.1
      -- one, other, cost = lanes[at]
      refine rd_seq (rd_asg (pu_go T (pu_ix (t := true) (i := at_) (pu_var rfl (keep O11 rL)) (pu_var rfl (.int _)) (by rw [List.getElem?_map, ep]; rfl)) fun v H12 k12 r12 => ?_))
      obtain ⟨a12, x12, rfl, e12, t12⟩ := Rp.tup_inv r12
      cases t12 with
      | cons t1 t12 =>
      cases t12 with
      | cons t2 t12 =>
      cases t12 with
      | cons t3 t12 =>
      cases t12
      rw [t1.str_inv, t2.str_inv, t3.int_inv] at e12
      refine ⟨a12, _, rfl, Ke.off.tq e12, rfl, _, _, rfl, _, _, rfl, _, _, rfl, rfl, ?_⟩
      have O12 := O11.new k12
      clear O10 O11 k11 k12 t1 t2 t3 r12 e12
      refine rd_next ?_
      dsimp only
      refine rd_seq ?_
      have t12 := thk O12
      have zz : ∀ {H' : Hp} {n' b'}, Ot K T l2 st sc F H3 b' n' H' → Rp K (off l2 H') (.ref r3) (.list (S.lanes.map lnD)) := fun O => keep O rL
      refine O12.app_rd (S1 := ⟨S.rooms, S.homes, S.lanes.take at_ ++ S.lanes.drop (at_ + 1)⟩) hFl n1 n2 rfl (pu_tup t12 (pua_cons (pu_var rfl (keep O12 rR)) (pua_cons (pu_var rfl (keep O12 rH)) (pua_cons (d := .list ((S.lanes.take at_ ++ S.lanes.drop (at_ + 1)).map lnD)) ((pu_cat t12 (pu_take (k := at_) t12 (pu_var rfl (zz O12)) (pu_var rfl (.int _))) (pu_drop (k := at_ + 1) t12 (pu_var rfl (zz O12)) ((pu_addI (pu_var rfl (.int _)) pu_int).is rfl)) ?_).is (by rw [List.map_append, List.map_take, List.map_drop])) pua_nil)))) (ok_less ok ep) (by omega) fun H13 O13 k13 => ?_
      · rw [List.length_take, List.length_drop, List.length_map]
        omega
      refine rd_next ?_
      dsimp only
      refine rd_seq ?_
      have t13 := thk O13
      refine O13.app_rd (S1 := ⟨S.rooms, S.homes, (S.lanes.take at_ ++ [(p.1, p.2.1, p.2.2 + 1)]) ++ S.lanes.drop (at_ + 1)⟩) hFl n1 n2 rfl (pu_tup t13 (pua_cons (pu_var rfl (keep O13 rR)) (pua_cons (pu_var rfl (keep O13 rH)) (pua_cons (d := .list (((S.lanes.take at_ ++ [(p.1, p.2.1, p.2.2 + 1)]) ++ S.lanes.drop (at_ + 1)).map lnD)) ((pu_cat t13 (pu_cat t13 (pu_take (k := at_) t13 (pu_var rfl (zz O13)) (pu_var rfl (.int _))) (pu_lst t13 (pua_cons (pu_tup t13 (pua_cons (pu_var rfl (.str _)) (pua_cons (pu_var rfl (.str _)) (pua_cons (pu_addI (pu_var rfl (.int _)) pu_int) pua_nil)))) pua_nil)) ?_) (pu_drop (k := at_ + 1) t13 (pu_var rfl (zz O13)) ((pu_addI (pu_var rfl (.int _)) pu_int).is rfl)) ?_).is (by rw [List.map_append, List.map_append, List.map_take, List.map_drop]; rfl)) pua_nil)))) (ok_dear ok ep) (by omega) fun H14 O14 k14 => ?_
      · rw [List.length_take, List.length_map]
        show min _ _ + 1 ≤ _
        omega
      · rw [List.length_append, List.length_take, List.length_drop, List.length_map]
        show min _ _ + 1 + _ ≤ _
        omega
      -- back
      refine rd_next ?_
      dsimp only
      refine rd_seq ?_
      have t14 := thk O14
      obtain ⟨cnd, ecnd⟩ : ∃ cnd, cnd = (decide (p.2.1 ∈ S.rooms.map (·.1)) && (S.lanes.map fun q => !PyData.eqv (.tuple [.str q.1, .str q.2.1]) (.tuple [.str p.2.1, .str p.1])).all id) := ⟨_, rfl⟩
      refine rd_asg (pu_go T (pu_if (K := K) (l := l2) (b := cnd) (d := .list ((if cnd then [(p.2.1, p.1, p.2.2)] else []).map lnD)) ((pt_and (pt_b (pu_din (n := p.2.1) (pu_var rfl (.str _)) (pu_var rfl (keep O14 rR)))) fun _ => pt_b (pu_all (pu_lcM (as := S.lanes) (fa := lnD) (fb := PyData.bool) (T := T) (l := l2) t14 (pi_of (t := true) (pu_var rfl (zz O14))) (fun q => !PyData.eqv (.tuple [.str q.1, .str q.2.1]) (.tuple [.str p.2.1, .str p.1])) fun q x H15 l1 hq k15 t15 lift rx => ?_))).is ecnd.symm) (fun hc => ?_) (fun hc => ?_)) fun vB H15 k15 rB => ?_)
      · have hq' := ok.ln q hq
        exact lcb_all (pu_neD (pu_takeT (k := 2) t15 (pu_var rfl rx) pu_int (by show 2 < 3; decide)) (pu_tup t15 (pua_cons (pu_var rfl (.str _)) (pua_cons (pu_var rfl (.str _)) pua_nil))) (by simp [noD, noDA]) (by simp [noD, noDA]) (shaped_pair (nm_room ok hq'.1) (nm_end ok hq'.2.1)) (shaped_pair hn2 hn1))
      · rw [hc]
        exact pu_lst (ds := [lnD (p.2.1, p.1, p.2.2)]) t14 (pua_cons (pu_tup t14 (pua_cons (pu_var rfl (.str _)) (pua_cons (pu_var rfl (.str _)) (pua_cons (pu_var rfl (.int _)) pua_nil)))) pua_nil)
      · rw [hc]
        exact pu_lst (ds := []) t14 pua_nil
      have O15 := O14.new k15
      have t15 := thk O15
      have hback : cnd = true → OkSp S.rooms S.homes ((S.lanes.take at_ ++ [(p.2.1, p.1, p.2.2)]) ++ S.lanes.drop (at_ + 1)) := fun hc => by
        rw [ecnd] at hc
        simp only [Bool.and_eq_true, decide_eq_true_eq, List.all_map, List.all_eq_true] at hc
        refine ok_back ok ep hc.1 fun q hq e => ?_
        have h2 := hc.2 q hq
        simp only [Function.comp, id, eqv_pair, e.1, e.2, decide_true, Bool.and_self, Bool.not_true] at h2
        cases h2
      clear ecnd O12 O13 O14 t12 t13 t14 k13 k14 k15
      refine rd_next ?_
      dsimp only
      refine O15.ext_rd (m := 6) (Ts := if cnd then [⟨S.rooms, S.homes, srtBy lnD ((S.lanes.take at_ ++ [(p.2.1, p.1, p.2.2)]) ++ S.lanes.drop (at_ + 1))⟩] else []) hFl n1 n2 rfl (pu_if (b := cnd) ((pt_test (pu_neD (pu_var rfl rB) (pu_lst t15 pua_nil) ?_ (by simp [noD, noDA]) ?_ (by simp [SeqAt.shaped, PyData.canLay0, PyData.canLayAll0, PyData.depth, PyData.depthAll]))).is ?_) (fun hc => ?_) (fun hc => ?_)) (fun S' hS => ?_) ?_ (by decide) fun H16 O16 k16 => ⟨⟨_, _, _, _, _, rfl⟩, O16⟩
      · cases cnd <;> simp [noD, noDA, lnD]
      · cases cnd with
        | true => exact shaped_lanes [(p.2.1, p.1, p.2.2)] fun q hq => by cases List.mem_singleton.mp hq; exact ⟨nm_ok hn2, nm_ok hn1⟩
        | false => exact shaped_lanes [] fun q hq => by cases hq
      · cases cnd <;> simp [PyData.eqv, PyData.eqvAll]
      · rw [hc] at rB ⊢
        have hb := hback hc
        refine pu_lst (ds := [spD _]) t15 (pua_cons (pu_tup t15 (pua_cons (pu_var rfl (keep O15 rR)) (pua_cons (pu_var rfl (keep O15 rH)) (pua_cons (pu_sortedL (f := lnD) (t := true) (bs := (S.lanes.take at_ ++ [(p.2.1, p.1, p.2.2)]) ++ S.lanes.drop (at_ + 1)) t15 ((pu_cat t15 (pu_cat t15 (pu_take (k := at_) t15 (pu_var rfl (zz O15)) (pu_var rfl (.int _))) (pu_var rfl rB) ?_) (pu_drop (k := at_ + 1) t15 (pu_var rfl (zz O15)) ((pu_addI (pu_var rfl (.int _)) pu_int).is rfl)) ?_).is (by rw [List.map_append, List.map_append, List.map_take, List.map_drop]; rfl)) (noDA_map _ fun _ => rfl) (PySem.W.AllAlike.of (fun _ _ => by simp [lnD, PySem.W.alike, PySem.W.alikeAll])) (PySem.W.Sortable.tuples (fun b => ⟨_, _, rfl⟩)) (fun d hd => ?_)) pua_nil)))) pua_nil)
        · rw [List.length_take, List.length_map]
          show min _ _ + 1 ≤ _
          omega
        · rw [List.length_append, List.length_take, List.length_drop, List.length_map]
          show min _ _ + 1 + _ ≤ _
          omega
        · obtain ⟨r, -, rfl⟩ := List.mem_map.mp hd
          simp [lnD, PyData.depth, PyData.depthAll]
      · rw [hc]
        exact pu_lst (ds := []) t15 pua_nil
      · cases hc : cnd with
        | true =>
          rw [hc] at hS
          cases List.mem_singleton.mp hS
          exact okSp_perm (hback hc) (.refl _) (.refl _) (srtBy_perm _ _)
        | false => rw [hc] at hS; cases hS
      · cases cnd <;> simp
    · rintro σ H11 ⟨⟨z7, z9, z10, z11, z12, rfl⟩, O11⟩
      -- for old in ..
      refine rd_seq (for_call (op_call (sl_call ?_)))
      refine ⟨_, rfl, rd_cons (pu_go T (pu_sortedK (thk O11) (pu_var rfl (keep O11 rR))) fun vq H12 k12 rq => ?_)⟩
      obtain ⟨aq, xq, rfl, eq, rqA⟩ := rq.list_inv
      have exq := rpA_strI rqA
      subst exq
      have O12 := O11.new k12
      have lenS : ((srtBy PyData.str (S.rooms.map (·.1))).map V.str).length = S.rooms.length := by rw [List.length_map, (srtBy_perm _ _).length_eq, List.length_map]
      refine ⟨st, sc, aq, b + 15 + N + 1, _, rfl, O12.s, .inl (SqL.of (off_some (fun z => (of_off eq).1 (stl2 _ z)) (of_off eq).2)), by rw [lenS]; omega, by rw [lenS]; omega, fun p1 ys H13 hp1 perm k13 hp1' np1 np2 s13 => ?_⟩
      rw [lenS] at s13
      obtain ⟨nmA, pmA, rfl⟩ := perm_map_inv perm rfl
      have O13 : Ot K T l2 st sc F H3 (b + 16 + 2 * N) 6 H13 := O12.str stl2 n1 n2 k13 (s13.mono (by omega))
      have inA : ∀ c ∈ nmA.take 1, c ∈ S.rooms.map (·.1) ++ S.homes := fun c hc => List.mem_append_left _ ((srtBy_perm _ _).mem_iff.mp (pmA.mem_iff.mp (List.mem_of_mem_take hc)))
      have rA13 : Rp K (off l2 H13) (.ref p1) (.list (nmA.map .str)) := .lst (off_some ((thk O12).new hp1) hp1') (rpA_strs _)
      refine pu_go T (pu_take (k := 1) (thk O13) (pu_val rA13) pu_int) fun vA H14 k14 rA => op_call2 (sl_call ?_)
      rw [← List.map_take] at rA
      have O14 := O13.new k14
      obtain ⟨aH, xH, eaH, eH, rHA⟩ := (keep O14 rH).list_inv
      have exH := rpA_strI rHA
      subst exH
      cases eaH
      refine ⟨_, rfl, _, rfl, st, sc, r2, b + 16 + 2 * N, _, rfl, O14.s, .inl (SqL.of (off_some (fun z => (of_off eH).1 (stl2 _ z)) (of_off eH).2)), by rw [List.length_map]; omega, by rw [List.length_map]; omega, fun p2 zs H15 hp2 perm2 k15 hp2' np3 np4 s15 => ?_⟩
      rw [List.length_map] at s15
      obtain ⟨nmB, pmB, rfl⟩ := perm_map_inv perm2 rfl
      have O15 : Ot K T l2 st sc F H3 (b + 16 + 3 * N) 6 H15 := O14.str stl2 n1 n2 k15 (s15.mono (by omega))
      have inB : ∀ c ∈ nmB.take 1, c ∈ S.rooms.map (·.1) ++ S.homes := fun c hc => List.mem_append_right _ (pmB.mem_iff.mp (List.mem_of_mem_take hc))
      have rB15 : Rp K (off l2 H15) (.ref p2) (.list (nmB.map .str)) := .lst (off_some ((thk O14).new hp2) hp2') (rpA_strs _)
      have rA15 := rA.kpl k15 stl2
      refine pu_go T (pu_take (k := 1) (thk O15) (pu_val rB15) pu_int) fun vB H16 k16 rB => ?_
      rw [← List.map_take] at rB
      have O16 := O15.new k16
      have rA16 := rA15.kp k16
      have in16 : ∀ c ∈ nmA.take 1 ++ nmB.take 1, c ∈ S.rooms.map (·.1) ++ S.homes := fun c hc => (List.mem_append.mp hc).elim (inA c) (inB c)
      have len16 : (nmA.take 1 ++ nmB.take 1).length ≤ 2 := by
        rw [List.length_append, List.length_take, List.length_take]
        omega
      refine op_val [] (pu_go T (pu_cat (thk O16) (pu_val rA16) (pu_val rB) (by rw [List.length_map, List.length_map]; rw [List.length_append] at len16; omega)) fun vO H17 k17 rO => ?_)
      rw [← List.map_append] at rO
      have O17 := O16.new k17
      generalize nmA.take 1 ++ nmB.take 1 = olds at in16 len16 rO
      clear O11 O12 O13 O14 O15 O16 k12 k13 k14 k15 k16 k17 rq rqA eq s13 perm pmA hp1 hp1' np1 np2 rA13 rA rA15 rA16 eH rHA s15 perm2 pmB hp2 hp2' np3 np4 rB15 rB inA inB lenS
      refine for_T (as := olds) (fa := PyData.str) (T := T) (l := l2) (pi_of (t := true) (pu_val rO)) fun H18 k18 => ⟨fun i σ' H' => (∃ z7 z9 z10 z11 z12 z13 z14 z15, σ' = [some (.ref st), some (.ref a), some (.ref r1), some (.ref r2), some (.ref r3), some vS, some (.ref F), z7, some (.int (at_ : Int)), z9, z10, z11, z12, z13, z14, z15, none, none, none, none]) ∧ Ot K T l2 st sc F H3 (b + 16 + 3 * N + i) (6 + i) H' ∧ Kp T [F, st, sc] H18 H', ⟨⟨_, _, _, _, _, _, _, _, rfl⟩, O17.new k18, Kp.refl⟩, fun i σ' H' p => ⟨[F, st, sc], (fun x hx => (List.mem_cons.mp hx).elim (fun e => e ▸ hFl) (stl2 x)), p.2.2⟩, fun i σ' H' H'' p k' => ⟨p.1, p.2.1.new k', p.2.2.trans (k'.mono (by simp))⟩, fun i old x σ' H' ec p rx => ?_, fun σ' H' p => ?_⟩
      · obtain ⟨⟨z7, z9, z10, z11, z12, z13, z14, z15, rfl⟩, O', kF⟩ := p
        have hold := in16 old (List.mem_of_getElem? ec)
        have hi2 : i < 2 := by
          have := (List.getElem?_eq_some_iff.mp ec).1
          omega
        -- over = dict(..)
        obtain ⟨ns, ens⟩ : ∃ ns, ns = S.rooms.map (·.1) ++ S.homes := ⟨_, rfl⟩
        have nd : ns.Nodup := ens ▸ nms_nd ok
        rw [← ens] at hold
        have lns : ns.length ≤ 4000 := by
          rw [ens, List.length_append, List.length_map]
          omega
        refine rd_seq (rd_asg (rd_cb (rd_cons (op_call (pu_go T (pu_lcM (as := ns) (fa := PyData.str) (fb := fun n : Str => .tuple [.str n, .str n]) (T := T) (l := l2) (thk O') (pi_of (t := true) ((pu_cat (thk O') (pu_keys (thk O') (pu_var rfl (keep O' rR))) (pu_var rfl (keep O' rH)) ?_).is (by rw [ens, List.map_append]; rfl))) (fun n => n) fun n x H19 l1 hn k19 t19 lift rx => lcb_all (pu_tup t19 (pua_cons (pu_var rfl rx) (pua_cons (pu_var rfl rx) pua_nil)))) fun vC H19 k19 rC => op_call2 ?_)))))
        · rw [List.length_map, List.length_map, List.length_map]
          omega
        have O19 := O'.new k19
        refine ⟨_, rfl, _, rfl, by show 2 ≤ sizeLine; decide, fun q hq => ?_⟩
        have kq : Kp T [] H19 (upd H19 q (.lst [.str "aaaaaaaa", .str "zzzzzzzz"])) := Kp.new hq
        have eq : (upd H19 q (.lst [.str "aaaaaaaa", .str "zzzzzzzz"])) q = some (.lst [.str "aaaaaaaa", .str "zzzzzzzz"]) := upd_same
        have uq := (thk O19).new hq
        generalize (upd H19 q (.lst [.str "aaaaaaaa", .str "zzzzzzzz"])) = H20 at kq eq ⊢
        have O20 := O19.new kq
        refine ⟨st, sc, .ref q, b + 16 + 3 * N + i, 2, fun j => ([.str "aaaaaaaa", .str "zzzzzzzz"] : List V).getD j .non, rfl, O20.s, by omega, .inl ⟨q, _, rfl, .inl (SqL.of (off_some (fun z => uq (stl2 _ z)) eq)), rfl, fun j v e => by show ([.str "aaaaaaaa", .str "zzzzzzzz"] : List V).getD j .non = v; rw [List.getD_eq_getElem?_getD, e]; rfl⟩, by decide, by decide, fun j H21 hj k21 s21 => ?_⟩
        obtain ⟨new, enew, hnew, lnew⟩ : ∃ new : Str, ([.str "aaaaaaaa", .str "zzzzzzzz"] : List V).getD j .non = .str new ∧ nmS new = true ∧ new.length = 8 := by
          match j, hj with
          | 0, _ => exact ⟨"aaaaaaaa", rfl, by decide +kernel, by decide +kernel⟩
          | 1, _ => exact ⟨"zzzzzzzz", rfl, by decide +kernel, by decide +kernel⟩
        have O21 := O20.str stl2 n1 n2 k21 s21
        have rC21 := (rC.kp kq).kpl k21 stl2
        refine ⟨by show 2 ≤ sizeLine; decide, fun tp htp => ⟨by show 1 ≤ sizeLine; decide, fun lq hlq => ?_⟩⟩
        dsimp only at htp hlq ⊢
        rw [enew] at hlq ⊢
        have ktp : Kp T [] H21 (upd H21 tp (.tup [.str old, .str new])) := Kp.new htp
        have etp : (upd H21 tp (.tup [.str old, .str new])) tp = some (.tup [.str old, .str new]) := upd_same
        have ex : x = .str old := rx.str_inv
        subst ex
        have utp := (thk O21).new htp
        have hlq : (upd H21 tp (.tup [.str old, .str new])) lq = none := hlq
        have O22 := O21.new ktp
        have rC22 := rC21.kp ktp
        generalize (upd H21 tp (.tup [.str old, .str new])) = H22 at ktp etp hlq O22 rC22 ⊢
        have klq : Kp T [] H22 (upd H22 lq (.lst [.ref tp])) := Kp.new hlq
        have elq : (upd H22 lq (.lst [.ref tp])) lq = some (.lst [.ref tp]) := upd_same
        have ulq := (thk O22).new hlq
        have etp' := klq.tup (by simp) etp
        generalize (upd H22 lq (.lst [.ref tp])) = H23 at klq elq etp' ⊢
        have O23 := O22.new klq
        have rC23 := rC22.kp klq
        have rQ23 : Rp K (off l2 H23) (.ref lq) (.list [.tuple [.str old, .str new]]) := .lst (off_some ulq elq) (.cons (.tup (SqT.of (off_some utp etp')) (.cons (.str _) (.cons (.str _) .nil))) .nil)
        refine op_val [] (pu_go T (pu_cat (thk O23) (pu_val rC23) (pu_val rQ23) (by rw [List.length_map, List.length_map]; show ns.length + 1 ≤ _; omega)) fun vD H24 k24 rD => ?_)
        have O24 := O23.new k24
        have rD' : Rp K (off l2 H24) vD (.list (((ns.map fun n => (n, n)) ++ [(old, new)]).map fun p => .tuple [.str p.1, .str p.2])) := by
          rw [List.map_append, List.map_map]
          rw [List.map_map] at rD
          exact rD
        refine rd_nil (cb_val (r := rDictP K) (σ := []) (pu_dictN (T := T) (thk O24) (pu_val rD') fun po xso H25 hpo k25 epo rdo => ?_))
        have O25 := O24.new k25
        have kB : Kp T [F, st, sc] H18 H25 := kF.trans ((((k19.trans kq).mono (by simp)).trans (k21.mono (by simp))).trans ((((ktp.trans klq).trans k24).trans k25).mono (by simp)))
        rw [over_mrg nd hold] at rdo
        clear O19 O20 O21 O22 O23 rC21 rC22 rC23 rQ23 rD rD' rC kq eq k21 s21 ktp etp klq elq etp' utp ulq uq hlq htp hq k24 k19 enew
        obtain ⟨ar, xr, ear, er, rdr⟩ := (keep O24 rR).dV_inv
        cases ear
        have nro : po ≠ r1 := none_ne (of_off er).2 hpo
        have upo : po ∉ l2 := (thk O24).new hpo
        have rO25 : Rp K (off l2 H25) (.ref po) (dV PyData.str (ns.map fun n => (n, ovf old new n))) := .dct (off_some upo epo) rdo
        have rO25' : Rp K (off (l2 ++ [r1]) H25) (.ref po) (dV PyData.str (ns.map fun n => (n, ovf old new n))) := .dct (off_some (by simp [upo, nro]) epo) (rpD_any (fun _ => rfl) rdo)
        have gov : ∀ n ∈ ns, sget (ns.map fun n => (n, ovf old new n)) n = some (ovf old new n) := fun n hn => sget_fun (f := ovf old new) hn
        have inR : ∀ n ∈ S.rooms.map (·.1), n ∈ ns := fun n hn => by rw [ens]; exact List.mem_append_left _ hn
        have inH : ∀ n ∈ S.homes, n ∈ ns := fun n hn => by rw [ens]; exact List.mem_append_right _ hn
        -- more
        refine rd_name ?_
        refine rd_seq (rd_asg (pu_go T (pu_lcM (as := S.lanes) (fa := lnD) (fb := lnD) (T := T) (l := l2) (thk O25) (pi_of (t := true) (pu_var rfl (keep O25 rL))) (fun q => (ovf old new q.1, ovf old new q.2.1, q.2.2)) fun q y H26 l1 hq k26 t26 lift ry => ?_) fun vM H26 k26 rM => ?_))
        · have hq' := ok.ln q hq
          exact lcb_tup3 ry fun v1 v2 v3 s1 s2 s3 => pu_tup t26 (pua_cons (pu_dget (enc := PyData.str) (pu_var rfl (lift _ _ rO25)) (pu_var rfl s1) (gov _ (inR _ hq'.1))) (pua_cons (pu_dget (enc := PyData.str) (pu_var rfl (lift _ _ rO25)) (pu_var rfl s2) (gov _ (hq'.2.1.elim (inR _) (inH _)))) (pua_cons (pu_var rfl s3) pua_nil)))
        have O26 := O25.new k26
        have rO26 := rO25.kp k26
        have rO26' : Rp K (off (l2 ++ [r1]) H26) (.ref po) (dV PyData.str (ns.map fun n => (n, ovf old new n))) := rO25'.kp k26
        refine rd_next ?_
        dsimp only
        have t26 := thk O26
        refine O26.app_rd (S1 := rnS (ovf old new) S) hFl n1 n2 rfl (pu_tup t26 (pua_cons (d := dV PyData.int (rnS (ovf old new) S).rooms) ?_ (pua_cons (d := .list ((S.homes.map (ovf old new)).map .str)) ?_ (pua_cons (pu_var rfl rM) pua_nil)))) (ok_over ok sh hnew lnew) (by omega) fun H27 O27 k27 => ?_
        · refine PuE.is (pu_dict (enc := PyData.int) (r := (rnS (ovf old new) S).rooms) t26 (PuE.is (pu_lcK (enc := PyData.int) (r := S.rooms) (T := T) (l := l2) (i := 2) (a := r1) t26 rfl (keep O26 rR) (fun _ => rfl) (by omega) (fun n => .tuple [.str (ovf old new n), .int ((sget S.rooms n).getD 0)]) fun n H27 l1 hn t27 lift get => ?_) ?_)) ?_
          · obtain ⟨ci, eci⟩ : ∃ ci, sget S.rooms n = some ci := by
              have q := sget_mem (r := S.rooms) (n := n)
              rw [decide_eq_true hn] at q
              exact Option.isSome_iff_exists.mp q
            rw [eci]
            exact lcb_all (pu_tup t27 (pua_cons (pu_dget (enc := PyData.str) (pu_var rfl (lift _ _ rO26')) (pu_var rfl (.str _)) (gov _ (inR _ hn))) (pua_cons (get _ _ n ci rfl (pu_var rfl (.str _)) eci) pua_nil)))
          · show _ = PyData.list ((S.rooms.map fun p => (ovf old new p.1, p.2)).map fun p => .tuple [.str p.1, .int p.2])
            rw [List.map_map, List.map_map]
            congr 1
            refine List.map_congr_left fun p hp => ?_
            show PyData.tuple [.str (ovf old new p.1), .int ((sget S.rooms p.1).getD 0)] = .tuple [.str (ovf old new p.1), .int p.2]
            rw [sget_nd ok.nd hp]
            rfl
          · rw [mrg_nd (ok_over ok sh hnew lnew).nd]
        · exact pu_lcM (as := S.homes) (fa := PyData.str) (fb := PyData.str) (T := T) (l := l2) t26 (pi_of (t := true) (pu_var rfl (keep O26 rH))) (ovf old new) fun n y H27 l1 hn k27 t27 lift ry => lcb_all (pu_dget (enc := PyData.str) (pu_var rfl (lift _ _ rO26)) (pu_var rfl ry) (gov _ (inH _ hn)))
        · exact ⟨⟨_, _, _, _, _, _, _, _, rfl⟩, O27.mono (by omega) (by omega), kB.trans ((k26.mono (by simp)).trans (k27.mono (by simp)))⟩
      · obtain ⟨⟨z7, z9, z10, z11, z12, z13, z14, z15, rfl⟩, O', -⟩ := p
        have O' := O'.mono (Nat.add_le_add_left len16 _) (Nat.add_le_add_left len16 _)
        clear rO O17
        -- idle
        dsimp only
        refine rd_seq (rd_asg (pu_go T (pu_lcF (as := S.homes) (fa := PyData.str) (T := T) (l := l2) (thk O') (pi_of (t := true) (pu_var rfl (keep O' rH))) (fun h => (S.lanes.map fun q => !decide (q.2.1 = h)).all id) fun h x H19 l1 hh k19 t19 lift rx => ?_) fun vI H19 k19 rI => ?_))
        · exact lcb_if (pt_b (pu_all (pu_lcM (as := S.lanes) (fa := lnD) (fb := PyData.bool) (T := T) (l := l1) t19 (pi_of (t := true) (pu_var rfl (lift _ _ (keep O' rL)))) (fun q => !decide (q.2.1 = h)) fun q y H20 l3 hq k20 t20 lift2 ry => lcb_all (pu_neS (pu_ix (t := false) (i := 1) (pu_var rfl ry) pu_int rfl) (pu_var rfl (lift2 _ _ rx)))))) fun _ => pu_var rfl rx
        have O19 := O'.new k19
        generalize hid : S.homes.filter (fun h => (S.lanes.map fun q => !decide (q.2.1 = h)).all id) = idle at rI
        have hid' : ∀ h ∈ idle, ∀ q ∈ S.lanes, q.2.1 ≠ h := fun h hh q hq e => by
          rw [← hid] at hh
          have := (List.mem_filter.mp hh).2
          simp only [List.all_map, List.all_eq_true] at this
          have := this q hq
          simp [e] at this
        refine rd_next ?_
        dsimp only
        refine rd_ret ?_
        obtain ⟨sF, kF, xs, Ss, f1, f2, f3, f4⟩ := O19
        refine ⟨_, rfl, pu_go T (pu_lcM (as := idle.take 1) (fa := PyData.str) (fb := spD) (T := T) (l := l2) (th3.kp kF) (pi_of (t := true) ((pu_take (k := 1) (th3.kp kF) (pu_var rfl rI) pu_int).is (by rw [List.map_take]; rfl))) (fun h => (⟨S.rooms, S.homes.filter (fun z => !decide (z = h)), S.lanes⟩ : SpD)) fun h x H20 l1 hh k20 t20 lift rx => ?_) fun vE H20 k20 rE => ?_⟩
        · have lk : ∀ {v d}, Rp K (off l2 H3) v d → Rp K (off l1 H20) v d := fun r => lift _ _ ((keep O' r).kp k19)
          exact lcb_all (pu_tup t20 (pua_cons (pu_var rfl (lk rR)) (pua_cons (pu_lcF (as := S.homes) (fa := PyData.str) (T := T) (l := l1) t20 (pi_of (t := true) (pu_var rfl (lk rH))) (fun z => !decide (z = h)) fun z y H21 l3 hz k21 t21 lift2 ry => lcb_if (pt_test (pu_neS (pu_var rfl ry) (pu_var rfl (lift2 _ _ rx)))) fun _ => pu_var rfl ry) (pua_cons (pu_var rfl (lk rL)) pua_nil))))
        obtain ⟨aE, xE, rfl, eE, rEA⟩ := rE.list_inv
        have lE := rEA.length
        rw [List.length_map, List.length_map, List.length_take] at lE
        have lF := f2.length
        rw [List.length_map] at lF
        have f1' := k20.lst (by simp) f1
        refine ⟨F, aE, xs, xE, rfl, rfl, f1', (of_off eE).2, le_line (by omega), fun p hp => ?_⟩
        have kp' : Kp T [] H20 (upd H20 p (.lst (xs ++ xE))) := Kp.new hp
        have kAll : Kp T [F, st, sc] H3 (upd H20 p (.lst (xs ++ xE))) := kF.trans ((k20.trans kp').mono (by simp))
        have kFin : Kp T [st, sc] H (upd H20 p (.lst (xs ++ xE))) := Kp.fresh (as := [F]) k03 (by simpa using kAll) fun x hx => by cases List.mem_singleton.mp hx; exact hF0
        refine k _ (Ss ++ (idle.take 1).map fun h => (⟨S.rooms, S.homes.filter (fun z => !decide (z = h)), S.lanes⟩ : SpD)) _ kFin ?_ (fun S' hS' => ?_) ?_ ((sF.kp (k20.trans kp') (by simp) (by simp)).mono (by omega))
        · have hp2 := ((th3.kp kF).kp k20).new hp
          have sub : ∀ x ∈ l, x ∈ l2 := fun x hx => by rw [el2]; exact List.mem_append_left _ hx
          refine .lst (off_some (fun z => hp2 (sub p z)) upd_same) ?_
          rw [List.map_append]
          exact ((f2.kp (k20.trans kp')).append (rEA.kp kp')).ke (Ke.sub sub)
        · rcases List.mem_append.mp hS' with h | h
          · exact f3 S' h
          · obtain ⟨h0, hh0, rfl⟩ := List.mem_map.mp h
            exact ok_idle ok (hid' h0 (List.mem_of_mem_take hh0))
        · rw [List.length_append, List.length_map, List.length_take]
          omega
end
end Sky
set_option Elab.async false
set_option linter.all false
set_option maxRecDepth 100000
set_option maxHeartbeats 1000000
/-! Sky End: the end of a law's row: the promise of the law's def asked at the caller alone, where no repr is under way. -/
namespace Sky
open PySem PySem.Spec PyProof.Rows L2 LamX NdefX PySem.W
/-- the heap that the law starts with: the script locked (if the text does not hold it), the tables empty -/
def startH (K : PySem.W.Frag) (tabs : List Addr) (a : Addr) (o : Obj) (xs : List V) : Hp := fun b =>
  if b ∈ tabs then some (.tbl #[]) else if b = a ∧ K.lookup a = none then some (.frz o (.lst xs)) else none
section
variable {K : PySem.W.Frag} {tabs : List Addr} {a b : Addr} {o : Obj} {xs : List V} {u : HO}
theorem startH_tab (h : b ∈ tabs) : startH K tabs a o xs b = some (.tbl #[]) := if_pos h
theorem startH_scr (h : a ∉ tabs) (k : K.lookup a = none) : startH K tabs a o xs a = some (.frz o (.lst xs)) := (if_neg h).trans (if_pos ⟨rfl, k⟩)
theorem startH_cases (e : startH K tabs a o xs b = some u) : (b ∈ tabs ∧ u = .tbl #[]) ∨ (b ∉ tabs ∧ b = a ∧ K.lookup a = none ∧ u = .frz o (.lst xs)) := by
  unfold startH at e
  by_cases h : b ∈ tabs
  · rw [if_pos h] at e
    exact .inl ⟨h, (Option.some.inj e).symm⟩
  · rw [if_neg h] at e
    by_cases h2 : b = a ∧ K.lookup a = none
    · rw [if_pos h2] at e
      exact .inr ⟨h, h2.1, h2.2, (Option.some.inj e).symm⟩
    · rw [if_neg h2] at e
      cases e
end
section
variable {P : Program} {w : World} {K : PySem.W.Frag} {mg mb : Str → Option Value} {k : Nat} {fa a : Addr} {cs : List (Addr × Addr)} {x : Str} {sp : Sp} {s₁ : Shared} {vs : List Value} {ns : List Int}
theorem end_call (kin : K.In s₁.heap) (glob : s₁.heap.Ns mainGlobals mg) (blt : s₁.heap.Ns builtinsNs mb) (bltb : ∀ x : Str, x ≠ "__name__" → mb x = bootBuiltins x) (lim : s₁.heap.NoLimit) (nog : s₁.gens = #[])
    (tabs : ∀ p ∈ cs, s₁.heap.get? p.2 = some { cls := .none, data := .fields #[] }) (tabsK : ∀ p ∈ cs, K.lookup p.2 = none) (heads : ∀ p ∈ cs, CodeHd s₁.heap p.1 p.2)
    (bmod : ∃ (bm : Addr) (ob : Obj), mg "__builtins__" = some (.ref bm) ∧ bm ≠ builtinsNs ∧ s₁.heap.get? bm = some ob ∧ ob.cls = .type "module" ∧ ob.dict = some builtinsNs ∧ ob.data = .plain)
    (scr : s₁.heap.get? a = some { cls := .type "list", data := .seq vs.toArray }) (isn : IntsAre vs ns) (len : ns.length ≤ sizeLine) (room : Room k callerA) (hfa : mg x = some (.ref fa))
    (D : ∀ base : Heap, K.In base → base.Ns mainGlobals mg → (∀ p ∈ cs, TabB base mg p.1 p.2) → DefOkG P w K mg base k x sp)
    (hsp : ∀ H : Hp, (∀ p ∈ cs, H p.2 = some (.tbl #[])) → SqL K H a (ns.map V.int) → sp [.ref a] H (fun v _ => v = .bl true) E0) :
    codeAny (model P w) callerA (.call (.ref fa) ⟨[.ref a], []⟩) (fun r s' => r = .ok (.ret (.bool true)) ∧ OldK s₁.heap s'.heap ∧ s'.os = s₁.os ∧ AllBare s'.gens) s₁ := by
  obtain ⟨tl, etl⟩ : ∃ tl : List Addr, tl = cs.map (·.2) := ⟨_, rfl⟩
  have tin : ∀ p ∈ cs, p.2 ∈ tl := fun p hp => by rw [etl]; exact List.mem_map.mpr ⟨p, hp, rfl⟩
  have tat : ∀ b ∈ tl, s₁.heap.get? b = some { cls := .none, data := .fields #[] } ∧ K.lookup b = none := fun b hb => by
    rw [etl] at hb
    obtain ⟨p, hp, rfl⟩ := List.mem_map.mp hb
    exact ⟨tabs p hp, tabsK p hp⟩
  have ant : a ∉ tl := fun z => by
    have q := (tat a z).1
    rw [scr] at q
    injection q with q
    injection q with q
    cases q
  obtain ⟨so, eso⟩ : ∃ so : Obj, so = { cls := .type "list", data := .seq vs.toArray } := ⟨_, rfl⟩
  rw [← eso] at scr
  obtain ⟨H, eH⟩ : ∃ H : Hp, H = startH K tl a so (ns.map V.int) := ⟨_, rfl⟩
  have rel := vals_ints isn
  have vlen : vs.length = ns.length := isn.length
  have hcase : ∀ {b u}, H b = some u → (b ∈ tl ∧ u = .tbl #[]) ∨ (b ∉ tl ∧ b = a ∧ K.lookup a = none ∧ u = .frz so (.lst (ns.map V.int))) := fun e => startH_cases (eH ▸ e)
  -- an object of the start that is neither table nor list is not tracked
  have untr : ∀ {b o}, s₁.heap.get? b = some o → o.data ≠ .fields #[] → (∀ ys n, o.data ≠ .seq ys n) → H b = none := fun {b o} e n1 n2 => by
    cases q : H b with
    | none => rfl
    | some u =>
      rcases hcase q with ⟨h1, _⟩ | ⟨_, h1, _⟩
      · rw [(tat b h1).1] at e
        cases e
        exact (n1 rfl).elim
      · rw [h1, scr, eso] at e
        cases e
        exact (n2 _ _ rfl).elim
  have nsb : ∀ {b m}, s₁.heap.Ns b m → (hidT s₁.heap H).Ns b m := fun {b m} ⟨o, es, ep, e, d, r⟩ => ⟨o, es, ep, hidT_get e (untr e (by rw [d]; intro z; cases z) (by rw [d]; intro _ _ z; cases z)), d, r⟩
  have kinb : K.In (hidT s₁.heap H) := fun b o e => hidT_get (kin b o e) (by
    cases q : H b with
    | none => rfl
    | some u =>
      rcases hcase q with ⟨h1, _⟩ | ⟨_, h1, h2, _⟩
      · rw [(tat b h1).2] at e; cases e
      · rw [h1, h2] at e; cases e)
  have tabb : ∀ p ∈ cs, TabB (hidT s₁.heap H) mg p.1 p.2 := fun p hp => by
    refine ⟨?_, ?_, fun z => ?_⟩
    · obtain ⟨oc, us, r1, r2, r3, r4, r5, r6, r7, h1, h2, h3, h4, rest⟩ := heads p hp
      refine ⟨oc, us, r1, r2, r3, r4, r5, r6, r7, hidT_get h1 (untr h1 (fun z => ?_) fun ys n z => ?_), h2, h3, h4, rest⟩
      · rw [h3] at z
        injection z with z
        rw [z] at h4
        simp at h4
      · rw [h3] at z
        cases z
    · obtain ⟨bm, ob, h1, h2, h3, h4, h5, h6⟩ := bmod
      refine ⟨bm, ob, h1, h2, fun z => ?_, fun z => ?_, hidT_get h3 (untr h3 (by rw [h6]; intro z; cases z) (by rw [h6]; intro _ _ z; cases z)), h4, h5, h6⟩
      · obtain ⟨o, es, ep, e, d, _⟩ := glob
        rw [z, e] at h3
        cases h3
        rw [d] at h6
        cases h6
      · rw [z, tabs p hp] at h3
        cases h3
        cases h6
    · obtain ⟨o, es, ep, e, d, _⟩ := glob
      rw [z, tabs p hp] at e
      cases e
      cases d
  have hok : HOk P w H s₁.heap := fun b u e => by
    rcases hcase e with ⟨h1, rfl⟩ | ⟨_, h1, _, rfl⟩
    · exact (tat b h1).1
    · rw [h1]
      have scr' := scr
      rw [eso] at scr'
      exact ⟨scr, by rw [List.length_map]; exact len, vs, _, rel, scr'⟩
  have sq : SqL K H a (ns.map V.int) := by
    cases q : K.lookup a with
    | none => exact .inl (.inr ⟨so, by rw [eH]; exact startH_scr ant q⟩)
    | some o =>
      have e := kin a o q
      rw [scr] at e
      cases e
      exact .inr ⟨so, vs.toArray, _, q, by rw [eso], by rw [eso], by rw [eso], by rw [List.size_toArray, vlen]; exact len, by simpa using rel⟩
  have env : Env0 P w K mg (hidT s₁.heap H) callerA [] s₁ H := ⟨rfl, ⟨kinb, nsb glob, ⟨mb, nsb blt, bltb⟩, let ⟨mc, l1, l2⟩ := lim; ⟨mc, nsb l1, l2⟩⟩, fun b o e => of_hidT e, Nat.le_of_eq (hidT_size _ _), trivial,
    fun b hb => (List.not_mem_nil (show b ∈ ([] : List Addr) from hb)).elim, hok, .of_eq nog⟩
  obtain ⟨f, fd, ps, plen, run, hm, _, bind⟩ := (D _ kinb (nsb glob) tabb).ex
  rw [hm] at hfa
  cases hfa
  have tb0 : ∀ p ∈ cs, H p.2 = some (.tbl #[]) := fun p hp => by rw [eH]; exact startH_tab (tin p hp)
  have q := hsp H tb0 sq
  have l1 : ps.length = 1 := (plen _ _ _ _ q).symm
  have bb := bind s₁ [.ref a] kin (by rw [l1]; rfl)
  rw [List.append_nil] at bb
  refine codeAny_mono (run callerA [] s₁ H ⟨[.ref a], []⟩ [.ref a] [.ref a] _ E0 rfl room env bb (.cons rfl .nil) q) fun r s' h => ?_
  match r, h with
  | .error e, h => exact (show False from h).elim
  | .ok .next, h => exact False.elim h
  | .ok .brk, h => exact False.elim h
  | .ok .cont, h => exact False.elim h
  | .ok (.ret u), h =>
    obtain ⟨v, H', os, bare, un, hok', rv, qv⟩ := h
    obtain rfl : v = .bl true := qv
    obtain rfl : u = Value.bool true := rv
    have stay : ∀ b o, b ∉ tl → s₁.heap.get? b = some o → s'.heap.get? b = some o := fun b o nb e => by
      cases t : H b with
      | none => exact un.keep b o e t (fun z => (List.not_mem_nil (show b ∈ ([] : List Addr) from z)).elim) (by simp)
      | some u =>
        rcases hcase t with ⟨h1, _⟩ | ⟨_, h1, _, rfl⟩
        · exact (nb h1).elim
        · have z1 := (hok' b _ (un.frzs b so _ t)).1
          rw [h1, scr] at e
          cases e
          exact z1
    have grew : ∀ p ∈ cs, ∃ more : Array Value, s'.heap.get? p.2 = some { cls := .none, data := .fields more } := fun p hp => by
      obtain ⟨more, t⟩ := un.tbls p.2 #[] (tb0 p hp)
      exact ⟨_, hok' p.2 _ t⟩
    refine ⟨rfl, ⟨fun b o e => ?_, fun b o e => ?_⟩, os, bare⟩
    · by_cases nb : b ∈ tl
      · have nb' := nb
        rw [etl] at nb'
        obtain ⟨p, hp, rfl⟩ := List.mem_map.mp nb'
        obtain ⟨more, gm⟩ := grew p hp
        rw [tabs p hp] at e
        cases e
        exact .inr (.inl ⟨((heads p hp).tab (tabs p hp)).isCodeTable, rfl, #[], more, rfl, by rw [Array.empty_append]; exact gm⟩)
      · exact .inl (stay b o nb e)
    · by_cases nb : b ∈ tl
      · rw [etl] at nb
        obtain ⟨p, hp, rfl⟩ := List.mem_map.mp nb
        obtain ⟨more, gm⟩ := grew p hp
        exact ⟨_, gm⟩
      · exact ⟨o, stay b o nb e⟩
end
/-- what the head tells of the law, at the heap h -/
def EndAt (l : OpenLaw) (w : World) (K : PySem.W.Frag) (k n : Nat) (x : Str) (mg : Str → Option Value) (h : Heap) : Prop :=
  ∃ (cs : List (Addr × Addr)) (sp : Sp), (∀ p ∈ cs, h.get? p.2 = some { cls := .none, data := .fields #[] }) ∧ (∀ p ∈ cs, K.lookup p.2 = none) ∧ (∀ p ∈ cs, CodeHd h p.1 p.2) ∧
    (∀ (H : Hp) (a : Addr) (ns : List Int), ns.length ≤ n → (∀ z ∈ ns, Builtin.Int.intBits z ≤ 1048576) → (∀ p ∈ cs, H p.2 = some (.tbl #[])) → SqL K H a (ns.map V.int) → sp [.ref a] H (fun v _ => v = .bl true) E0) ∧
    ∀ base : Heap, K.In base → base.Ns mainGlobals mg → (∀ p ∈ cs, TabB base mg p.1 p.2) → DefOkG l.prog w K mg base k x sp
theorem end_walk {l : OpenLaw} {n k : Nat} {q : Program} {loose : List Str} {XP : (Str → Option Value) → Heap → Prop} {YP : World → Heap → Prop} {d : DefRec} (hn : l.most = some n) (hn2 : n ≤ sizeLine) (hdf : d.params.defaults = []) (hr : Room k callerA)
    (F : ∀ (w : World) (mg : Str → Option Value) (h : Heap), YP w h → h.Ns mainGlobals mg → ∃ K : PySem.W.Frag, K.In h ∧ EndAt l w K k n d.name mg h) : WalkO q loose XP YP l.row.toRowW d [] (fun f vs => PySem.call f vs) :=
  Att.attach_callB hn hdf fun w s₀ s₁ mg mb fa o pm cd doc a vs ns G Y ho hd hcd hmg hobj hints hlen hbits hg => by
    obtain ⟨K, kin, cs, sp, t1, t2, t3, t4, D⟩ := F w mg _ Y G.T.g
    exact end_call kin G.T.g G.T.b G.T.builtins G.T.nolimit hg t1 t2 t3 G.T.bmain hobj hints (Nat.le_trans hlen hn2) hr hmg D fun H h1 h2 => t4 H a ns hlen hbits h1 h2
end Sky
set_option Elab.async false
set_option linter.all false
set_option maxRecDepth 100000
set_option maxHeartbeats 1000000
/-! Sky End 2: what the head's facts say of defs, methods, classes. -/
namespace Sky
open PySem PySem.Spec PyProof.Rows L2 LamX NdefX PySem.W
def dTop (x : Str) (st : Stmt) : He.DefD := ⟨(x, none), x, x, defArgs st, defBody st, defScope st, [], []⟩
def dMet (c m q : Str) (st : Stmt) : He.DefD := ⟨(c, some m), m, q, defArgs st, defBody st, defScope st, [], []⟩
section
variable {K : PySem.W.Frag} {x q c m : Str} {st : Stmt} {f : Addr} {fd : FuncData} {fa : List He.Fa} {fn : List He.DefD} {ts : List He.Tab} {tf : List He.Defn} {ex : PySem.W.Frag → Bool} {w : World} {h : Heap} {mg : Str → Option Value}
theorem fun_ofD (F : FunD K x q (defArgs st) (defBody st) (defScope st) [] [] f fd) : Fun K x q st f fd := by
  obtain ⟨⟨oc, od, dV, kV, doc, pm, an, cdv, ct, osl, e1, e2, e3, e4, e5⟩, kp⟩ := F
  rcases e4 with ⟨_, rfl⟩ | ⟨z, _⟩
  · exact ⟨⟨oc, od, kV, doc, pm, an, cdv, ct, osl, e1, e2, e3⟩, kp⟩
  · exact (z rfl).elim
theorem topFn_of (X : K.In h) (G : h.Ns mainGlobals mg) (s : He.SaysD fa fn K) (i j : Nat) (h1 : fn[i]? = some (dTop x st)) (h2 : fa[j]? = some (.glo x)) : TopFn K mg x st := by
  obtain ⟨fd, F⟩ := s.def_ i h1
  exact ⟨_, fd, fun_ofD F, He.glo_ok X G (s.fact j h2)⟩
theorem metFn_of (s : He.SaysD fa fn K) (i j : Nat) (h1 : fn[i]? = some (dMet c m q st)) (h2 : fa[j]? = some (.meth c m)) : MetFn K (He.ga K c) m q st := by
  obtain ⟨fd, F⟩ := s.def_ i h1
  exact ⟨_, fd, fun_ofD F, He.meth_ok (s.fact j h2)⟩
theorem initFn_of (X : K.In h) (G : h.Ns mainGlobals mg) (s : He.SaysD fa fn K) (i j l : Nat) (h1 : fn[i]? = some (dMet c "__init__" q st)) (h2 : fa[j]? = some (.mkr c)) (h3 : fa[l]? = some (.glo c)) : InitFn K mg c (He.ga K c) q st (He.codeOf K (c, some "__init__")) := by
  obtain ⟨fd, F⟩ := s.def_ i h1
  obtain ⟨⟨oc, od, dV, kV, doc, pm, an, cdv, ct, osl, e1, e2, e3, e4, e5⟩, kp⟩ := F
  rcases e4 with ⟨_, rfl⟩ | ⟨z, _⟩
  · refine ⟨_, fd, ?_, He.mkr_ok (s.fact j h2), He.glo_ok X G (s.fact l h3)⟩
    obtain ⟨cc, rfl⟩ := He.codeIn_ref e3
    have ec : He.codeOf K (c, some "__init__") = cc := He.codeOf_eq e2 (by rw [e1])
    rw [ec]
    exact ⟨⟨oc, od, kV, doc, pm, an, ct, osl, e1, e2, e3⟩, kp⟩
  · exact (z rfl).elim
end
/-- the facts of a class with an __eq__ of its own that are no Fa -/
def clsB (K : PySem.W.Frag) (x : Str) : Bool :=
  decide (PySem.W.findIn K (.ref (He.ga K x)) "__class__" = some (some (.builtin "object.__class__"))) && (decide (PySem.W.specialIn K (.builtin "object.__class__") "__get__" = some (some (.builtin "getset_descriptor.__get__"))) &&
  (decide (PySem.W.takesIn K (.builtin "object.__class__") = some true) && (decide (PySem.W.mroIn K (He.ga K x) (.type "object") = some true) && (decide (PySem.W.findIn K (.ref (He.ga K x)) "__ne__" = some (some (.builtin "object.__ne__"))) &&
  ([Tg.non, .bl, .int, .str, .lst, .tup, .dct].all fun g => decide (PySem.W.kitOne K (.type g.name) (.ref (He.ga K x)) = some false))))))
theorem clsB_is {K : PySem.W.Frag} {x : Str} (h : clsB K x = true) (c : Cls K (He.ga K x)) : IsCls K (He.ga K x) ∧ PySem.W.findIn K (.ref (He.ga K x)) "__ne__" = some (some (.builtin "object.__ne__")) ∧ PySem.W.mroIn K (He.ga K x) (.type "object") = some true := by
  unfold clsB at h
  simp only [Bool.and_eq_true, decide_eq_true_eq, List.all_eq_true] at h
  obtain ⟨h1, h2, h3, h4, h5, h6⟩ := h
  exact ⟨⟨c, h1, h2, h3, h4, fun g => h6 g (by cases g <;> simp)⟩, h5, h4⟩
/-- a method taken as a value -/
def bmeB (K : PySem.W.Frag) (x m : Str) : Bool := decide (PySem.W.specialIn K (.ref (He.ma K (He.ga K x) m)) "__get__" = some (some (.builtin "function.__get__"))) && (decide (PySem.W.takesIn K (.ref (He.ma K (He.ga K x) m)) = some false) && PySem.W.fnIn K (He.ma K (He.ga K x) m))
theorem bmeB_is {K : PySem.W.Frag} {x m : Str} (h : bmeB K x m = true) (mt : Meth K (He.ga K x) m (He.ma K (He.ga K x) m)) (cp : PySem.W.copiedNames.contains m = false := by decide) : BMeth K (He.ga K x) m (He.ma K (He.ga K x) m) := by
  unfold bmeB at h
  simp only [Bool.and_eq_true, decide_eq_true_eq] at h
  exact ⟨mt, h.1, h.2.1, cp, h.2.2⟩
def blts : List Str := ["isinstance", "len", "all", "any", "range", "enumerate", "zip", "sorted", "list", "tuple", "dict", "int", "str", "bool", "abs", "min", "max", "sum", "repr"]
theorem blt_of {K : PySem.W.Frag} {h : Heap} {mg : Str → Option Value} {fn : List He.DefD} {fa : List He.Fa} (X : K.In h) (G : h.Ns mainGlobals mg) (s : He.SaysD (blts.map He.Fa.free ++ fa) fn K) : Blt mg := by
  have f : ∀ i y, ((blts.map He.Fa.free ++ fa : List He.Fa)[i]? = some (He.Fa.free y)) → mg y = none := fun i y e => He.free_ok X G (s.fact i e)
  exact ⟨f 0 _ rfl, f 1 _ rfl, f 2 _ rfl, f 3 _ rfl, f 4 _ rfl, f 5 _ rfl, f 6 _ rfl, f 7 _ rfl, f 8 _ rfl, f 9 _ rfl, f 10 _ rfl, f 11 _ rfl, f 12 _ rfl, f 13 _ rfl, f 14 _ rfl, f 15 _ rfl, f 16 _ rfl, f 17 _ rfl, f 18 _ rfl⟩
/-- an empty table tells nothing -/
theorem tabsN_start {H : Hp} {p : Addr} {nm : Nat → Nat → Str} (h : H p = some (.tbl #[])) : TabsN [(p, nm)] H := fun q hq => by
  cases List.mem_singleton.mp hq
  exact ⟨#[], h, (by simp [TriplesOk]), fun pos cv hc => by simp [codeAmong] at hc⟩
end Sky
set_option Elab.async false
set_option linter.all false
set_option maxRecDepth 100000
set_option maxHeartbeats 1000000
namespace Sky
open PySem PySem.Spec PyProof.Rows L2 LamX NdefX PySem.W
def endFa : List He.Fa := blts.map He.Fa.free ++ [.glo "is_list", .glo "is_whole", .glo "is_row", .glo "is_name", .glo "first_bad", .glo "itself", .glo "is_room", .glo "Space", .glo "is_corridor", .glo "_law_stream", .glo "_law_draw", .glo "_law_pick", .glo "_law_mixed", .glo "_law_same", .glo "_law_loose",
  .glo "_law_copied", .glo "_law_spoilt", .glo "_law_names", .glo "_law_space", .glo "_law_handed", .glo "_law_told", .glo "_law_due", .glo "_law_others", .glo "_law_made_right", .glo "law",
  .str "LETTERS" letters, .cls "Space", .noat "Space" "own_rooms", .noat "Space" "own_homes", .noat "Space" "own_lanes", .noat "Space" "own_out", .meth "Space" "is_lane", .meth "Space" "rooms", .meth "Space" "homes", .meth "Space" "lanes", .meth "Space" "__eq__", .mkr "Space"]
def endFn : List He.DefD := [dTop "is_list" s_is_list, dTop "is_whole" s_is_whole, dTop "is_row" s_is_row, dTop "is_name" s_is_name, dTop "first_bad" s_first_bad, dTop "itself" s_itself, dTop "is_room" s_is_room, dTop "is_corridor" s_is_corridor,
  dTop "_law_stream" s_stream, dTop "_law_draw" s_draw, dTop "_law_pick" s_pick, dTop "_law_mixed" s_mixed, dTop "_law_same" s_same, dTop "_law_loose" s_loose, dTop "_law_copied" s_copied, dTop "_law_spoilt" s_spoilt, dTop "_law_names" s_names, dTop "_law_space" s_space,
  dTop "_law_handed" s_handed, dTop "_law_told" s_told, dTop "_law_due" s_due, dTop "_law_others" s_others, dTop "_law_made_right" s_made_right, dTop "law" s_law,
  dMet "Space" "__init__" "Space.__init__" s_init, dMet "Space" "is_lane" "Space.is_lane" s_is_lane, dMet "Space" "rooms" "Space.rooms" s_rooms, dMet "Space" "homes" "Space.homes" s_homes, dMet "Space" "lanes" "Space.lanes" s_lanes, dMet "Space" "__eq__" "Space.__eq__" s_eq]
def endTf : List He.Defn := [("Space", some "__init__")]
def endEx (K : PySem.W.Frag) : Bool := clsB K "Space" && bmeB K "Space" "is_lane"
abbrev endR : PySem.W.OpenRow := PySem.W.OpenLaw.row PySem.Challenge.rw_skyhomes_k01_whole_spaces_told
abbrev endHk : PySem.W.Hook := He.hookX 6 endFa endFn [] endTf endEx
def endOb (s : PySem.W.SharedT) : He.AlX := He.obsX 6 endFa endFn [] endTf endEx (HandSHeadRun.getT s)
theorem endOb_eq (s : PySem.W.SharedT) : endOb s = endHk.obs s.abs := He.obsX_eq (HandSHeadRun.getT_eq s)
def endLoose : List Str := ["LETTERS", "is_list", "is_whole", "is_row", "is_name", "first_bad", "itself", "SkyError", "BadRooms", "BadHomes", "BadLanes", "is_room", "Space", "is_corridor", "_law_stream", "_law_draw", "_law_pick", "_law_mixed", "_law_same", "_law_loose",
  "_law_copied", "_law_spoilt", "_law_names", "_law_space", "_law_handed", "_law_told", "_law_due", "_law_others", "_law_made_right"]
theorem end_run (w : World) : HandSHeadRun.RunEq endR (PySem.W.view endR.prog [33]) endHk endOb 3000 endLoose w := by
  intro os
  kernel_rfl
theorem end_facts {w : World} {h : Heap} {mg : Str → Option Value} (G : h.Ns mainGlobals mg) {K : PySem.W.Frag} (X : K.In h) (c : He.SaysX endFa endFn [] endTf endEx w h K) :
    EndAt PySem.Challenge.rw_skyhomes_k01_whole_spaces_told w K 10 63 "law" mg h := by
  have s := c.t.d
  have B : Blt mg := blt_of X G s
  have tf : ∀ {x : Str} {st : Stmt} (i j : Nat), endFn[i]? = some (dTop x st) → endFa[j]? = some (.glo x) → TopFn K mg x st := fun i j h1 h2 => topFn_of X G s i j h1 h2
  have cl : Cls K (He.ga K "Space") := He.cls_ok (s.fact 45 rfl)
  have cs : ClsS K mg (He.ga K "Space") := ⟨cl, He.noat_ok (s.fact 46 rfl), He.noat_ok (s.fact 47 rfl), He.noat_ok (s.fact 48 rfl), He.noat_ok (s.fact 49 rfl), He.glo_ok X G (s.fact 26 rfl)⟩
  have more := c.more
  unfold endEx at more
  simp only [Bool.and_eq_true] at more
  obtain ⟨ic, hne, hob⟩ := clsB_is more.1 cl
  have bm := bmeB_is more.2 (He.meth_ok (s.fact 50 rfl))
  obtain ⟨t, hL⟩ := He.str_ok X G (s.fact 44 rfl : (He.Fa.str "LETTERS" letters).ok K = true)
  have hdp := c.hd _ (List.mem_singleton.mpr rfl)
  refine ⟨[He.cT K ("Space", some "__init__")], sp_law K [((He.cT K ("Space", some "__init__")).2, fun _ _ => qInit)], fun p hp => ?_, fun p hp => ?_, fun p hp => ?_, fun H a ns hl hb hH hS => ?_, fun base kin gl tb => ?_⟩
  · exact c.empty _ (by cases List.mem_singleton.mp hp; exact List.mem_singleton.mpr rfl) |> fun z => by cases List.mem_singleton.mp hp; exact z
  · cases List.mem_singleton.mp hp
    exact c.out _ (List.mem_singleton.mpr rfl)
  · cases List.mem_singleton.mp hp
    exact codeHd_of_K X hdp
  · exact ⟨a, ns, rfl, tabsN_start (hH _ (List.mem_singleton.mpr rfl)), hS, fun _ => rfl⟩
  · have TB := tb _ (List.mem_singleton.mpr rfl)
    obtain ⟨T, eT⟩ : ∃ T : List NTab, T = [((He.cT K ("Space", some "__init__")).2, fun _ _ => qInit)] := ⟨_, rfl⟩
    rw [← eT]
    have hm : ((He.cT K ("Space", some "__init__")).2, fun _ _ => qInit) ∈ T := by rw [eT]; exact List.mem_singleton.mpr rfl
    have hu : ∀ p ∈ T, p.1 = (He.cT K ("Space", some "__init__")).2 → p.2 = fun _ _ => qInit := fun p hp _ => by
      rw [eT] at hp
      cases List.mem_singleton.mp hp
      rfl
    have g_is_list := d_is_list (P := PySem.Challenge.rw_skyhomes_k01_whole_spaces_told.prog) (w := w) (base := base) (T := T) B (tf 0 19 rfl rfl)
    have g_is_whole := d_is_whole (P := PySem.Challenge.rw_skyhomes_k01_whole_spaces_told.prog) (w := w) (base := base) B (tf 1 20 rfl rfl)
    have g_is_row := d_is_row B g_is_list (tf 2 21 rfl rfl)
    have g_is_name := d_is_name (P := PySem.Challenge.rw_skyhomes_k01_whole_spaces_told.prog) (w := w) (base := base) (T := T) B ⟨t, hL⟩ (tf 3 22 rfl rfl)
    have g_first_bad := d_first_bad B g_is_list (tf 4 23 rfl rfl) 3
    have g_itself := d_itself (P := PySem.Challenge.rw_skyhomes_k01_whole_spaces_told.prog) (w := w) (base := base) (tf 5 24 rfl rfl)
    have g_is_room := d_is_room B g_is_row g_is_name g_is_whole (tf 6 25 rfl rfl)
    have g_is_corridor := d_is_corridor (P := PySem.Challenge.rw_skyhomes_k01_whole_spaces_told.prog) (w := w) (base := base) B cs (tf 7 27 rfl rfl)
    have g_is_lane := d_is_lane B cs g_is_row g_is_corridor g_is_whole (metFn_of s 25 50 rfl rfl)
    have g_init := d_init B cs TB hm hu (fun _ _ => rfl) g_is_room g_is_name g_itself g_first_bad g_is_lane bm (initFn_of X G s 24 55 26 rfl rfl rfl)
    have g_rooms := d_rooms (P := PySem.Challenge.rw_skyhomes_k01_whole_spaces_told.prog) (w := w) (base := base) (T := T) cs (metFn_of s 26 51 rfl rfl)
    have g_homes := d_homes (P := PySem.Challenge.rw_skyhomes_k01_whole_spaces_told.prog) (w := w) (base := base) (T := T) B cs (metFn_of s 27 52 rfl rfl)
    have g_lanes := d_lanes (P := PySem.Challenge.rw_skyhomes_k01_whole_spaces_told.prog) (w := w) (base := base) (T := T) B cs (metFn_of s 28 53 rfl rfl)
    have g_eq := d_eq (P := PySem.Challenge.rw_skyhomes_k01_whole_spaces_told.prog) (w := w) (base := base) B cs ic (metFn_of s 29 54 rfl rfl)
    have g_stream := d_stream (P := PySem.Challenge.rw_skyhomes_k01_whole_spaces_told.prog) (w := w) (base := base) (T := T) B (tf 8 28 rfl rfl)
    have g_draw := d_draw (P := PySem.Challenge.rw_skyhomes_k01_whole_spaces_told.prog) (w := w) (base := base) (T := T) B (tf 9 29 rfl rfl)
    have g_pick := d_pick B g_draw (tf 10 30 rfl rfl)
    have g_mixed := d_mixed B g_draw (tf 11 31 rfl rfl)
    have g_same := d_same (P := PySem.Challenge.rw_skyhomes_k01_whole_spaces_told.prog) (w := w) (base := base) (T := T) B (tf 12 32 rfl rfl) 6
    have g_loose := d_loose B g_draw (tf 13 33 rfl rfl) 3
    have g_copied := d_copied (P := PySem.Challenge.rw_skyhomes_k01_whole_spaces_told.prog) (w := w) (base := base) (T := T) B (tf 14 34 rfl rfl) 4
    have g_spoilt := d_spoilt (P := PySem.Challenge.rw_skyhomes_k01_whole_spaces_told.prog) (w := w) (base := base) (T := T) B (tf 15 35 rfl rfl) 6
    have g_names := d_names B g_draw g_pick (tf 16 36 rfl rfl)
    have g_space := d_space B g_draw g_pick g_names (tf 17 37 rfl rfl)
    have g_handed := d_handed B g_mixed g_loose (tf 18 38 rfl rfl)
    have g_told := d_told cs g_rooms g_homes g_lanes (tf 19 39 rfl rfl)
    have g_due := d_due (P := PySem.Challenge.rw_skyhomes_k01_whole_spaces_told.prog) (w := w) (base := base) (T := T) B (tf 20 40 rfl rfl)
    have g_made_right := d_made_right B cs ic hne hob g_handed g_due g_told g_same g_spoilt g_copied g_init.1 g_init.2 g_eq (tf 22 42 rfl rfl)
    have g_others := d_others B g_names g_mixed g_draw g_pick (tf 21 41 rfl rfl)
    exact d_law B cs ic hne hob g_stream g_pick g_space g_mixed g_due g_same g_others g_made_right g_init.1 g_eq (tf 23 43 rfl rfl)
end Sky
open PySem PySem.W PySem.Calls PyProof.Rows in
set_option maxHeartbeats 0 in
theorem PySem.Challenge.cw_skyhomes_k01_whole_spaces_told_holds : PySem.Challenge.rw_skyhomes_k01_whole_spaces_told.Holds := by
  w_on; o_law
  refine HandSHeadRun.head_any (r := Sky.endR) (q := view Sky.endR.prog [33]) (H := Sky.endHk) (ob := Sky.endOb) (M := 3000) (loose := Sky.endLoose) (d := HandSHeadRun.topDef Sky.endR.prog 33) (kwd := []) Sky.endOb_eq
    (by kernel_rfl) (fun s => by kernel_rfl) Sky.end_run (by kernel_rfl) (by kernel_rfl) (by kernel_rfl) (by rfl) (by first | assumption | decide +kernel) (by decide +kernel) ⟨rfl, rfl, rfl, rfl, rfl, by decide +kernel⟩ ?hw ?hc
  case hw => w_witness2
  case hc =>
    refine Sky.end_walk (l := PySem.Challenge.rw_skyhomes_k01_whole_spaces_told) (n := 63) (k := 10) rfl (by decide) (by kernel_rfl) ⟨rfl, by decide, by decide⟩ ?F
    intro w mg h Y G
    obtain ⟨K, X, c⟩ := Y
    refine ⟨K, X, ?_⟩
    have e : (HandSHeadRun.topDef Sky.endR.prog 33).name = ("law" : PySem.Str) := by kernel_rfl
    rw [e]
    exact Sky.end_facts G X c
