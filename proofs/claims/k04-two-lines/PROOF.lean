import PyProof.Rows.All
import Wide.All
import OpenK.AllK
import Wide.FinOn
import PyProof.EqAt
import PyProof.EqKinds
import PyProof.TupleCall
import HandS.ForMost
import HandS.Exc
import HandS.ExcOwn
import HandS.WordsExc
import HandS.IsInst
import HandS.Defaults
import HandS.StrMore
import HandS.Codes
import HandS.TupAny
import HandS.Wide
import HandS.Flow
import HandS.Walk
import KE.KExcSuper
import HandS.ExcSuper
import KE.KExcIs
import HandS.ExcField
import PySem.Challenge.RW_seamfast_k04_two_lines
set_option Elab.async false
set_option linter.all false
set_option maxRecDepth 100000
set_option maxHeartbeats 8000000
/-! general help: heaps, data, isinstance, the tape -/
namespace L2
open PySem PySem.Spec PyProof.Rows
/-! ### powers of any size below the model's line -/
def CPowB (i j : Int) : Prop := 0 ≤ j ∧ (Builtin.Int.intBits i : Int) * j ≤ 2 ^ 27
theorem op_powB {X : Cx} : OpR X (binaryOp .Pow) (rI CPowB fun i j => .int (i ^ j.toNat)) := opI fun _ _ _ _ _ _ _ hc q => pow_int hc.1 hc.2 q
/-- a text, some times -/
theorem op_rep_str {X : Cx} : OpR X (binaryOp .Mult) (fun x y H Q => ∃ z i, x = .str z ∧ y = .int i ∧ MulOk z i ∧ Q (.str (Txt.mul z i)) H) := by
  intro pins s σ H x y v u Q I rx ry h
  obtain ⟨z, i, rfl, rfl, hc, q⟩ := h
  obtain ⟨t, rfl⟩ := rx
  obtain ⟨t', rfl⟩ := ry
  exact PySem.SB.mul hc fun t2 k => ⟨.str _, H, I.tok k, ⟨t2, rfl⟩, q⟩
theorem pe_const {X : Cx} {x : Str} {pos : Pos} (v : V) (h : ∃ u, X.mg x = some u ∧ RelV v u) (hg : Gl X x := by rfl) (hd : (x == ("__debug__" : Str)) = false := by decide) : PE X (.Name x pos) (tC v) := by
  obtain ⟨u, hm, r⟩ := h
  exact pe_glob hg hm r hd
/-! ### heaps -/
theorem Same.upd {H : Hp} {p : Addr} {o : HO} (h : H p = none) : Same H (upd H p o) := fun b x e => by
  rw [upd_ne (ne_of_none e h)]
  exact e
/-- an object that was not known may change -/
theorem Same.mut {H H' : Hp} {p : Addr} {o : HO} (e : Same H H') (h : H p = none) : Same H (L2.upd H' p o) := fun b x hb => by
  rw [upd_ne (ne_of_none hb h)]
  exact e b x hb
theorem Same.none {H H' : Hp} (e : Same H H') {p : Addr} (h : H' p = none) : H p = none := e.free h
theorem Same.seqT {K : PySem.W.Frag} {H H' : Hp} {a : Addr} {xs : List V} (e : Same H H') (h : SqT K H a xs) : SqT K H' a xs := by
  rcases h with (h | ⟨o, h⟩) | h
  · exact .inl (.inl (e _ _ h))
  · exact .inl (.inr ⟨o, e _ _ h⟩)
  · exact .inr h
/-- all but a is as it was -/
def But (a : Addr) (H H' : Hp) : Prop := ∀ b o, b ≠ a → H b = some o → H' b = some o
theorem But.refl (a : Addr) (H : Hp) : But a H H := fun _ _ _ h => h
theorem But.trans {a : Addr} {H H1 H2 : Hp} (x : But a H H1) (y : But a H1 H2) : But a H H2 := fun b o n h => y b o n (x b o n h)
theorem Same.but {a : Addr} {H H' : Hp} (e : Same H H') : But a H H' := fun b o _ h => e b o h
theorem But.upd {a : Addr} {H : Hp} {o : HO} : But a H (upd H a o) := fun b x n h => by
  rw [upd_ne n]
  exact h
/-- what was not known may change -/
theorem But.mut {a : Addr} {H H' : Hp} {p : Addr} {o : HO} (e : But a H H') (h : H p = Option.none) : But a H (L2.upd H' p o) := fun b x n hb => by
  rw [upd_ne (ne_of_none hb h)]
  exact e b x n hb
theorem But.new {a : Addr} {H H' : Hp} {p : Addr} {o : HO} (e : But a H H') (h : H' p = Option.none) : But a H (L2.upd H' p o) := fun b x n hb => by
  have q := e b x n hb
  rw [upd_ne (ne_of_none q h)]
  exact q
/-! ### data -/
mutual
theorem Dp.mono {K : PySem.W.Frag} {H H' : Hp} (e : Same H H') {v : V} {d : PyData} (h : Dp K H v d) : Dp K H' v d := by
  cases h with
  | non => exact .non
  | bl b => exact .bl b
  | int i => exact .int i
  | str x => exact .str x
  | lst h1 h2 => exact .lst (e.seq h1) (DpAll.mono e h2)
  | tup h1 h2 => exact .tup (e.seqT h1) (DpAll.mono e h2)
theorem DpAll.mono {K : PySem.W.Frag} {H H' : Hp} (e : Same H H') {vs : List V} {ds : List PyData} (h : DpAll K H vs ds) : DpAll K H' vs ds := by
  cases h with
  | nil => exact .nil
  | cons h1 h2 => exact .cons (Dp.mono e h1) (DpAll.mono e h2)
end
theorem DpAll.length {K : PySem.W.Frag} {H : Hp} : ∀ {vs : List V} {ds : List PyData}, DpAll K H vs ds → vs.length = ds.length
  | _, _, .nil => rfl
  | _, _, .cons _ h => congrArg Nat.succ h.length
theorem DpAll.get {K : PySem.W.Frag} {H : Hp} : ∀ {vs : List V} {ds : List PyData} {i : Nat} {v : V}, DpAll K H vs ds → vs[i]? = some v → ∃ d, ds[i]? = some d ∧ Dp K H v d
  | _, _, _, _, .nil, h => by simp at h
  | _, _, 0, v, .cons h1 _, h => ⟨_, rfl, by simp at h; exact h ▸ h1⟩
  | _, _, i + 1, v, .cons _ h2, h => by
    obtain ⟨d, e, q⟩ := DpAll.get (i := i) h2 (by simpa using h)
    exact ⟨d, by simpa using e, q⟩
/-- the name of a datum's class -/
def PyData.ty : PyData → String
  | .none => "NoneType"
  | .bool _ => "bool"
  | .int _ => "int"
  | .str _ => "str"
  | .list _ => "list"
  | .tuple _ => "tuple"
  | .dict _ => "dict"
theorem sqL_ty {K : PySem.W.Frag} {H : Hp} {a : Addr} {xs : List V} (h : SqL K H a xs) : TyX K H (.ref a) (.type "list") := by
  rcases h with (h | ⟨o, h⟩) | ⟨o, its, n, h1, h2, _⟩
  · exact .base (.lst h)
  · exact .base (.frz h)
  · exact .kList h1 h2
theorem sqT_ty {K : PySem.W.Frag} {H : Hp} {a : Addr} {xs : List V} (h : SqT K H a xs) : TyX K H (.ref a) (.type "tuple") := by
  rcases h with (h | ⟨o, h⟩) | ⟨o, its, n, h1, h2, _⟩
  · exact .base (.tup h)
  · exact .fTuple h
  · exact .kTuple h1 h2
theorem Dp.ty {K : PySem.W.Frag} {H : Hp} {v : V} {d : PyData} (h : Dp K H v d) : TyX K H v (.type (PyData.ty d)) := by
  cases h with
  | non => exact .base .non
  | bl b => exact .base (.bl b)
  | int i => exact .base (.int i)
  | str x => exact .base (.str x)
  | lst h1 _ => exact sqL_ty h1
  | tup h1 _ => exact sqT_ty h1
/-! ### isinstance -/
theorem r_isi {K : PySem.W.Frag} {H : Hp} {Q : VK} {x : V} {n T : String} {b : Bool} (ty : TyX K H x (.type n)) (h : kitB n T = some b) (q : Q (.bl b) H) : rIsi K [x, .ty T] H Q :=
  ⟨x, .ty T, .type n, .type T, b, rfl, .ty T, ty, kit_ty h, q⟩
def isInt : PyData → Bool | .int _ => true | .bool _ => true | _ => false
def isBool : PyData → Bool | .bool _ => true | _ => false
def isStr : PyData → Bool | .str _ => true | _ => false
def isTup : PyData → Bool | .tuple _ => true | _ => false
def isLst : PyData → Bool | .list _ => true | _ => false
theorem kit_int {K : PySem.W.Frag} {H : Hp} {v : V} {d : PyData} (h : Dp K H v d) : kitB (PyData.ty d) "int" = some (isInt d) := by
  cases h <;> (dsimp only [PyData.ty, isInt]; decide +kernel)
theorem kit_bool {K : PySem.W.Frag} {H : Hp} {v : V} {d : PyData} (h : Dp K H v d) : kitB (PyData.ty d) "bool" = some (isBool d) := by
  cases h <;> (dsimp only [PyData.ty, isBool]; decide +kernel)
theorem kit_str {K : PySem.W.Frag} {H : Hp} {v : V} {d : PyData} (h : Dp K H v d) : kitB (PyData.ty d) "str" = some (isStr d) := by
  cases h <;> (dsimp only [PyData.ty, isStr]; decide +kernel)
theorem kit_tup {K : PySem.W.Frag} {H : Hp} {v : V} {d : PyData} (h : Dp K H v d) : kitB (PyData.ty d) "tuple" = some (isTup d) := by
  cases h <;> (dsimp only [PyData.ty, isTup]; decide +kernel)
theorem kit_lst {K : PySem.W.Frag} {H : Hp} {v : V} {d : PyData} (h : Dp K H v d) : kitB (PyData.ty d) "list" = some (isLst d) := by
  cases h <;> (dsimp only [PyData.ty, isLst]; decide +kernel)
/-! ### data without lists -/
/-- tuples stay tuples -/
def Tu (H H' : Hp) : Prop := ∀ b xs, (H b = some (.tup xs) → H' b = some (.tup xs)) ∧ ∀ o, H b = some (.frz o (.tup xs)) → H' b = some (.frz o (.tup xs))
theorem Tu.refl (H : Hp) : Tu H H := fun _ _ => ⟨id, fun _ => id⟩
theorem Tu.trans {H H1 H2 : Hp} (a : Tu H H1) (b : Tu H1 H2) : Tu H H2 := fun c xs => ⟨fun h => (b c xs).1 ((a c xs).1 h), fun o h => (b c xs).2 o ((a c xs).2 o h)⟩
theorem Same.tu {H H' : Hp} (e : Same H H') : Tu H H' := fun b xs => ⟨e b _, fun o => e b _⟩
theorem Tu.lst {H : Hp} {p : Addr} {xs ys : List V} (h : H p = some (.lst xs)) : Tu H (L2.upd H p (.lst ys)) := fun b zs => by
  refine ⟨fun e => ?_, fun o e => ?_⟩
  · rw [upd_ne (ne_of e h (fun z => nomatch z))]
    exact e
  · rw [upd_ne (ne_of e h (fun z => nomatch z))]
    exact e
theorem Tu.seqT {K : PySem.W.Frag} {H H' : Hp} {a : Addr} {xs : List V} (e : Tu H H') (h : SqT K H a xs) : SqT K H' a xs := by
  rcases h with (h | ⟨o, h⟩) | h
  · exact .inl (.inl ((e _ _).1 h))
  · exact .inl (.inr ⟨o, (e _ _).2 o h⟩)
  · exact .inr h
/-- nothing in it can change -/
def imm : PyData → Bool
  | .list _ => false
  | .dict _ => false
  | .tuple ds => immAll ds
  | _ => true
where immAll : List PyData → Bool
  | [] => true
  | d :: ds => imm d && immAll ds
mutual
theorem Dp.imm {K : PySem.W.Frag} {H H' : Hp} (e : Tu H H') {v : V} {d : PyData} (h : Dp K H v d) (hi : L2.imm d = true) : Dp K H' v d := by
  cases h with
  | non => exact .non
  | bl b => exact .bl b
  | int i => exact .int i
  | str x => exact .str x
  | lst h1 h2 => exact absurd hi (by simp [L2.imm])
  | tup h1 h2 => exact .tup (e.seqT h1) (DpAll.imm e h2 (by simpa [L2.imm] using hi))
theorem DpAll.imm {K : PySem.W.Frag} {H H' : Hp} (e : Tu H H') {vs : List V} {ds : List PyData} (h : DpAll K H vs ds) (hi : L2.imm.immAll ds = true) : DpAll K H' vs ds := by
  cases h with
  | nil => exact .nil
  | cons h1 h2 =>
    have z : (L2.imm _ && L2.imm.immAll _) = true := hi
    rw [Bool.and_eq_true] at z
    exact .cons (Dp.imm e h1 z.1) (DpAll.imm e h2 z.2)
end
/-! ### the tape: a list of five things at a, its cells at c -/
abbrev LIM : Int := 10 ^ 1200
/-- what a tape is -/
def Tape (H : Hp) (a c : Addr) : Prop := a ≠ c ∧ ∃ (cells : List Int) (p cur st ex : Int), H a = some (.lst [.ref c, .int p, .int cur, .int st, .int ex]) ∧ H c = some (.lst (cells.map V.int)) ∧
  0 ≤ p ∧ 0 ≤ cur ∧ 0 ≤ st ∧ st < 2147483647 ∧ ∀ x ∈ cells, 0 ≤ x
/-- the part of the heap that a call may turn: a tape, or nothing -/
abbrev Wd := Option (Addr × Addr)
def moved (w : Wd) (b : Addr) : Prop := match w with | none => False | some p => b = p.1
def Ok (w : Wd) (H : Hp) : Prop := match w with | none => True | some p => Tape H p.1 p.2
def Fr (w : Wd) (H H' : Hp) : Prop := ∀ b o, ¬ moved w b → H b = some o → H' b = some o
theorem Fr.refl (w : Wd) (H : Hp) : Fr w H H := fun _ _ _ h => h
theorem Fr.trans {w : Wd} {H H1 H2 : Hp} (x : Fr w H H1) (y : Fr w H1 H2) : Fr w H H2 := fun b o n h => y b o n (x b o n h)
theorem Same.fr {w : Wd} {H H' : Hp} (e : Same H H') : Fr w H H' := fun b o _ h => e b o h
theorem Fr.same {H H' : Hp} (e : Fr none H H') : Same H H' := fun b o h => e b o id h
theorem Ok.known {w : Wd} {H : Hp} (k : Ok w H) {b : Addr} (m : moved w b) : ∃ xs, H b = some (.lst xs) := by
  cases w with
  | none => exact m.elim
  | some p =>
    obtain ⟨_, cells, p', cur, st, ex, h, _⟩ := k
    have e : b = p.1 := m
    rw [e]
    exact ⟨_, h⟩
theorem Ok.fresh {w : Wd} {H : Hp} (k : Ok w H) {b : Addr} (n : H b = Option.none) : ¬ moved w b := fun m => by
  obtain ⟨xs, h⟩ := k.known m
  rw [n] at h
  cases h
/-- a thing that is no list is not moved -/
theorem Ok.other {w : Wd} {H : Hp} (k : Ok w H) {b : Addr} {o : HO} (h : H b = some o) (n : ∀ xs, o ≠ .lst xs) : ¬ moved w b := fun m => by
  obtain ⟨xs, h2⟩ := k.known m
  rw [h] at h2
  exact n xs (Option.some.inj h2)
theorem Fr.tu {w : Wd} {H H' : Hp} (k : Ok w H) (e : Fr w H H') : Tu H H' := fun b xs =>
  ⟨fun h => e b _ (k.other h (fun _ z => nomatch z)) h, fun o h => e b _ (k.other h (fun _ z => nomatch z)) h⟩
theorem Fr.none {w : Wd} {H H' : Hp} (k : Ok w H) (e : Fr w H H') {p : Addr} (h : H' p = Option.none) (hm : ¬ moved w p := by assumption) : H p = Option.none := by
  cases q : H p with
  | none => rfl
  | some o =>
    rw [e p o hm q] at h
    cases h
theorem Fr.fresh {w : Wd} {H H' : Hp} (k' : Ok w H') (e : Fr w H H') {p : Addr} (h : H' p = Option.none) : H p = Option.none := by
  cases q : H p with
  | none => rfl
  | some o =>
    rw [e p o (k'.fresh h) q] at h
    cases h
/-- a new object -/
theorem Fr.new {w : Wd} {H H' : Hp} (k' : Ok w H') (e : Fr w H H') {p : Addr} {o : HO} (h : H' p = Option.none) : Fr w H (L2.upd H' p o) := fun b x n hb => by
  have q := e b x n hb
  rw [upd_ne (ne_of_none q h)]
  exact q
/-- an object that was not known changes -/
theorem Fr.mut {w : Wd} {H H' : Hp} (e : Fr w H H') {p : Addr} {o : HO} (h : H p = Option.none) : Fr w H (L2.upd H' p o) := fun b x n hb => by
  rw [upd_ne (ne_of_none hb h)]
  exact e b x n hb
theorem Ok.upd {w : Wd} {H : Hp} (k : Ok w H) {p : Addr} {o : HO} (h : ∀ q, w = some q → p ≠ q.1 ∧ p ≠ q.2) : Ok w (L2.upd H p o) := by
  cases w with
  | none => trivial
  | some q =>
    obtain ⟨n, cells, p', cur, st, ex, h1, h2, h3⟩ := k
    obtain ⟨e1, e2⟩ := h q rfl
    exact ⟨n, cells, p', cur, st, ex, by rw [upd_ne (Ne.symm e1)]; exact h1, by rw [upd_ne (Ne.symm e2)]; exact h2, h3⟩
/-- at a place that an earlier heap did not know -/
theorem Ok.mut {w : Wd} {H0 H : Hp} (k0 : Ok w H0) (k : Ok w H) {p : Addr} {o : HO} (h : H0 p = Option.none) : Ok w (L2.upd H p o) := k.upd fun q e => by
  subst e
  obtain ⟨n, cells, p', cur, st, ex, h1, h2, h3⟩ := k0
  exact ⟨(ne_of_none h1 h).symm, (ne_of_none h2 h).symm⟩
theorem Ok.new {w : Wd} {H : Hp} (k : Ok w H) {p : Addr} {o : HO} (h : H p = Option.none) : Ok w (L2.upd H p o) := k.mut k h
theorem Fr.seq {K : PySem.W.Frag} {w : Wd} {H H' : Hp} (e : Fr w H H') {a : Addr} {xs : List V} (n : ¬ moved w a) (h : SqL K H a xs) : SqL K H' a xs := by
  rcases h with (h | ⟨o, h⟩) | h
  · exact .inl (.inl (e _ _ n h))
  · exact .inl (.inr ⟨o, e _ _ n h⟩)
  · exact .inr h
/-! ### comprehensions whose element and test leave all but the tape as it was -/
/-- the turns that give -/
def kept (n : Nat) (b : Nat → Bool) : List Nat := (List.range n).filter b
theorem kept_yes {n : Nat} {b : Nat → Bool} (h : b n = true) : kept (n + 1) b = kept n b ++ [n] := by
  unfold kept
  rw [List.range_succ, List.filter_append, List.filter_cons, if_pos h, List.filter_nil]
theorem kept_no {n : Nat} {b : Nat → Bool} (h : b n = false) : kept (n + 1) b = kept n b := by
  unfold kept
  rw [List.range_succ, List.filter_append, List.filter_cons, if_neg (by rw [h]; decide), List.filter_nil, List.append_nil]
theorem kept_all (n : Nat) : kept n (fun _ => true) = List.range n := by
  unfold kept
  rw [List.filter_eq_self]
  exact fun _ _ => rfl
theorem kept_len (n : Nat) (b : Nat → Bool) : (kept n b).length ≤ n := by
  unfold kept
  have h := List.length_filter_le b (List.range n)
  rw [List.length_range] at h
  exact h
theorem lcR {J : It} {n : Nat} {G : Hp → Prop} {Y : Nat → Hp → V → Hp → Prop} {w : Wd} {j : Nat} {tt : TT} {te : TE} {vs : List Nat} {σ : St} {H1 : Hp} {D : Addr} {Qd : Hp → Prop} (wk : Walk J n G Y) (b : Nat → Bool) (R : Nat → V → Hp → Prop)
    (k0 : Ok w H1) (hD : H1 D = none) (hn : n < 16000000) (hw : ∀ x, wipe ((wipe σ vs).set j (some x)) vs = wipe σ vs)
    (hG : ∀ H', Fr w H1 H' → Ok w H' → G H') (hR : ∀ i y H2 H3, Tu H2 H3 → R i y H2 → R i y H3)
    (hY : ∀ i H x H', Y i H x H' → H' = H)
    (ht : ∀ i x H2, i < n → Fr w H1 H2 → Ok w H2 → Y i H2 x H2 → ∀ Q' : Bool → Hp → Prop, (∀ H5, Fr w H2 H5 → Ok w H5 → Q' (b i) H5) → tt ((wipe σ vs).set j (some x)) H2 Q')
    (he : ∀ i x H2 H3, i < n → b i = true → Fr w H1 H2 → Ok w H2 → Y i H2 x H2 → Fr w H2 H3 → Ok w H3 → ∀ Q' : VK, (∀ y H5, Fr w H3 H5 → Ok w H5 → R i y H5 → Q' y H5) → te ((wipe σ vs).set j (some x)) H3 Q')
    (hd : ∀ H' ys, Fr w H1 H' → Ok w H' → H' D = some (.lst ys) → Paired (fun i y => R i y H') (kept n b) ys → Qd H') :
    ∃ W : Nat → Nat → Hp → Prop, (∃ m, W 0 m (upd H1 D (.lst []))) ∧ ∀ i m H, W i m H →
      (J.stop i H ∧ Qd H) ∨ (J.go i H ∧ ∃ Nx : Hp → Prop, (∀ H', Nx H' → ∃ m', m' < m ∧ W (i + 1) m' H') ∧ ∀ x H', J.yld i H x H' → gName j x (wipe σ vs) H' fun σ2 H2 => wipe σ2 vs = wipe σ vs ∧ tt σ2 H2 fun b H3 =>
        if b = true then te σ2 H3 fun y H4 => ∃ acc, H4 D = some (.lst acc) ∧ acc.length < sizeLine ∧ Nx (upd H4 D (.lst (acc ++ [y]))) else Nx H3) := by
  refine lc_it (Qd := Qd) wk (fun i H' => i ≤ n ∧ Fr w H1 H' ∧ Ok w H' ∧ ∃ ys, H' D = some (.lst ys) ∧ Paired (fun i y => R i y H') (kept i b) ys) ?_ ?_ ?_ ?_
  · exact ⟨Nat.zero_le _, (Fr.refl w H1).new k0 hD, k0.new hD, [], upd_same, .nil⟩
  · rintro i H' _ ⟨_, f, k, _⟩
    exact hG H' f k
  · rintro i x H2 H3 hi ⟨_, f, k, ys, hy, hp⟩ yy
    have e3 := hY _ _ _ _ yy
    subst e3
    refine ⟨hw x, ht i x H3 hi f k yy _ fun H5 f5 k5 => ?_⟩
    have nD : ¬ moved w D := k0.fresh hD
    cases hb : b i with
    | true =>
      refine iteT (he i x H3 H5 hi hb f k yy f5 k5 _ fun y H6 f6 k6 r => ?_)
      have f36 := f5.trans f6
      have hy6 : H6 D = some (.lst ys) := f36 D _ nD hy
      have hl := hp.length
      have hk := kept_len i b
      refine ⟨ys, hy6, ?_, by omega, (f.trans f36).mut hD, k0.mut k6 hD, ys ++ [y], upd_same, ?_⟩
      · rw [sizeLine_eq]
        omega
      · rw [kept_yes hb]
        have t1 : Tu H3 (L2.upd H6 D (.lst (ys ++ [y]))) := (f36.tu k).trans (Tu.lst hy6)
        exact Paired.snoc (L2.Paired.mapP hp fun i' y' r' => hR _ _ _ _ t1 r') (hR _ _ _ _ (Tu.lst hy6) r)
    | false =>
      refine iteF ⟨by omega, f.trans f5, k5, ys, f5 D _ nD hy, ?_⟩
      rw [kept_no hb]
      exact L2.Paired.mapP hp fun i' y' r' => hR _ _ _ _ (f5.tu k) r'
  · rintro H' ⟨_, f, k, ys, hy, hp⟩
    exact hd H' ys f k hy hp
end L2
/-! readings gone through one step at a time -/
namespace L2
open PySem PySem.Spec PyProof.Rows
/-! ### named readings -/
def nAddS : R2 := fun x y H Q => ∃ i j, x = .str i ∧ y = .str j ∧ i.length + j.length ≤ sizeLine ∧ Q (.str (i ++ j)) H
def nInS : R2 := fun x y H Q => ∃ i j, x = .str i ∧ y = .str j ∧ Q (.bl (!(Builtin.Str.occurrences j i 0 j.length 1).isEmpty)) H
def nNotinS : R2 := fun x y H Q => ∃ i j, x = .str i ∧ y = .str j ∧ Q (.bl (!(!(Builtin.Str.occurrences j i 0 j.length 1).isEmpty))) H
def nIsN : R2 := fun x y H Q => y = .non ∧ Q (.bl (decide (x = .non))) H
def nNotN : R2 := fun x y H Q => y = .non ∧ Q (.bl (!decide (x = .non))) H
def nRepS : R2 := fun x y H Q => ∃ z i, x = .str z ∧ y = .int i ∧ MulOk z i ∧ Q (.str (Txt.mul z i)) H
def nLenS : List V → Hp → VK → Prop := fun xs H Q => ∃ z, xs = [.str z] ∧ z.length ≤ sizeLine ∧ Q (.int z.length) H
def nLenL (K : PySem.W.Frag) : List V → Hp → VK → Prop := fun xs H Q => ∃ p ys, xs = [.ref p] ∧ (SqL K H p ys ∨ SqT K H p ys) ∧ Q (.int ys.length) H
def nAbs : List V → Hp → VK → Prop := fun xs H Q => ∃ i, xs = [.int i] ∧ Q (.int (if i < 0 then -i else i)) H
def nMax : List V → Hp → VK → Prop := fun xs H Q => ∃ i j, xs = [.int i, .int j] ∧ Q (.int (if j > i then j else i)) H
def nMin : List V → Hp → VK → Prop := fun xs H Q => ∃ i j, xs = [.int i, .int j] ∧ Q (.int (if j < i then j else i)) H
def nInt : List V → Hp → VK → Prop := fun xs H Q => (∃ i, xs = [.int i] ∧ Q (.int i) H) ∨ ∃ k, xs = [.bl k] ∧ Q (.int (if k then 1 else 0)) H
def nOrd : List V → Hp → VK → Prop := fun xs H Q => ∃ x, xs = [.str x] ∧ x.length = 1 ∧ Q (.int (x.cps.getD 0 0 : Nat)) H
def nTupOf (K : PySem.W.Frag) : List V → Hp → VK → Prop := fun xs H Q => ∃ p ys, xs = [.ref p] ∧ ((SqL K H p ys ∧ ∀ l, H l = none → Q (.ref l) (upd H l (.tup ys))) ∨ (SqT K H p ys ∧ Q (.ref p) H))
def nLstOf (K : PySem.W.Frag) : List V → Hp → VK → Prop := fun xs H Q => ∃ p ys, xs = [.ref p] ∧ (SqL K H p ys ∨ SqT K H p ys) ∧ ∀ l, H l = none → Q (.ref l) (upd H l (.lst ys))
def nStrI : List V → Hp → VK → Prop := fun xs H Q => ∃ i, xs = [.int i] ∧ i.natAbs.log2 < 1920 ∧ Q (.str (toString i)) H
def nIntS : List V → Hp → VK → Prop := fun xs H Q => ∃ a n, xs = [.str a] ∧ PySem.intText? a = some n ∧ a.length ≤ 640 ∧ Q (.int n) H
def nJoin (K : PySem.W.Frag) : V → List V → Hp → VK → Prop := fun x xs H Q => ∃ a p, ∃ ys : List Str, x = .str a ∧ xs = [.ref p] ∧ (SqL K H p (ys.map V.str) ∨ SqT K H p (ys.map V.str)) ∧ (ys.map (·.length)).sum + ys.length * a.length ≤ 16777216 ∧ Q (.str (Txt.join a ys)) H
def nStripC : V → List V → Hp → VK → Prop := fun x xs H Q => ∃ a b, x = .str a ∧ xs = [.str b] ∧ a.length ≤ sizeLine ∧ Q (.str (Txt.stripChars a b)) H
def nSplit : V → List V → Hp → VK → Prop := fun x xs H Q => ∃ a b, x = .str a ∧ xs = [.str b] ∧ (b.length == 0) = false ∧ a.length + 2 ≤ sizeLine ∧ rNewStrs (Txt.split a b) H Q
def nWords : V → List V → Hp → VK → Prop := fun x xs H Q => ∃ a, x = .str a ∧ xs = [] ∧ a.length + 2 ≤ sizeLine ∧ rNewStrs (Txt.words a) H Q
section
variable {X : Cx}
theorem oq_addS : OpR X (binaryOp .Add) nAddS := op_add_str
theorem oq_inS : OpR X (compareOp .In) nInS := op_in_str
theorem oq_notinS : OpR X (compareOp .NotIn) nNotinS := op_notin_str
theorem oq_isN : OpR X (compareOp .Is) nIsN := op_isN
theorem oq_notN : OpR X (compareOp .IsNot) nNotN := op_notN
theorem oq_repS : OpR X (binaryOp .Mult) nRepS := op_rep_str
theorem cq_lenS : CallR X (.builtin "len") nLenS := call_len_str
theorem cq_lenL : CallR X (.builtin "len") (nLenL X.K) := call_len_seq
theorem cq_abs : CallR X (.builtin "abs") nAbs := call_abs
theorem cq_max (hc : X.calm = true) : CallR X (.builtin "max") nMax := call_max2 hc
theorem cq_min (hc : X.calm = true) : CallR X (.builtin "min") nMin := call_min2 hc
theorem cq_int : CallR X (.type "int") nInt := call_int1
theorem cq_ord : CallR X (.builtin "ord") nOrd := call_ord
theorem cq_tupOf : CallR X (.type "tuple") (nTupOf X.K) := call_tuple_of
theorem cq_lstOf : CallR X (.type "list") (nLstOf X.K) := call_list_of
theorem cq_strI : CallR X (.type "str") nStrI := call_str_int
theorem cq_intS : CallR X (.type "int") nIntS := call_int_str
theorem mq_join : MtR X "str.join" (nJoin X.K) := mt_join
theorem mq_stripC : MtR X "str.strip" nStripC := mt_stripChars
theorem mq_split : MtR X "str.split" nSplit := mt_split
theorem mq_words : MtR X "str.split" nWords := mt_words
end
/-! ### one step each -/
section
variable {K : PySem.W.Frag} {σ : St} {H : Hp} {Q : VK} {nx : St → Hp → Prop} {rt : VK} {bk ct : St → Hp → Prop} {t u : TS} {te ta tb tc : TE} {tt uu : TT} {r r' : R2} {ar : TA} {x y v : V} {D : Ends}
theorem rd_start {N : List Str} {vs : List V} (e : start N vs = σ) (h : t D σ H) : t D (start N vs) H := by
  rw [e]
  exact h
theorem rd_seq (h : t ⟨u ⟨nx, rt, bk, ct⟩, rt, bk, ct⟩ σ H) : tSeq t u ⟨nx, rt, bk, ct⟩ σ H := h
theorem rd_next (h : nx σ H) : tNext ⟨nx, rt, bk, ct⟩ σ H := h
theorem rd_ret (h : te σ H rt) : tRet te ⟨nx, rt, bk, ct⟩ σ H := h
theorem rd_retN (h : rt .non H) : tRetN ⟨nx, rt, bk, ct⟩ σ H := h
theorem rd_break (h : bk σ H) : tBreak ⟨nx, rt, bk, ct⟩ σ H := h
theorem rd_cont (h : ct σ H) : tCont ⟨nx, rt, bk, ct⟩ σ H := h
theorem rd_drop (h : te σ H fun _ H1 => nx σ H1) : tDrop te ⟨nx, rt, bk, ct⟩ σ H := h
theorem rd_asg {g : TG} (h : te σ H fun x H1 => g x σ H1 nx) : tAsg te g ⟨nx, rt, bk, ct⟩ σ H := h
theorem rd_gname {i : Nat} {Q' : St → Hp → Prop} (h : Q' (σ.set i (some v)) H) : gName i v σ H Q' := h
theorem rd_gsub {to ti : TE} {s : TSet} {Q' : St → Hp → Prop} (h : to σ H fun o H1 => ti σ H1 fun i H2 => s o i v H2 fun H3 => Q' σ H3) : gSub to ti s v σ H Q' := h
theorem rd_if (h : tt σ H fun b H1 => if b = true then t ⟨nx, rt, bk, ct⟩ σ H1 else u ⟨nx, rt, bk, ct⟩ σ H1) : tIfS tt t u ⟨nx, rt, bk, ct⟩ σ H := h
theorem rd_var {i : Nat} (e : σ[i]? = some (some v)) (h : Q v H) : tVar i σ H Q := ⟨v, e, h⟩
theorem rd_c (h : Q v H) : tC v σ H Q := h
theorem rd_op (h : ta σ H fun x H1 => tb σ H1 fun y H2 => r x y H2 Q) : tOp r ta tb σ H Q := h
theorem rd_un {r1 : V → Hp → VK → Prop} (h : ta σ H fun x H1 => r1 x H1 Q) : tUn r1 ta σ H Q := h
theorem rd_chain (h : ta σ H fun x H1 => tb σ H1 fun y H2 => r x y H2 fun z H3 => ∃ k, z = .bl k ∧ (if k = true then tc σ H3 fun w' H4 => r' y w' H4 Q else Q (.bl false) H3)) : tChain r r' ta tb tc σ H Q := h
theorem rd_test {Q' : Bool → Hp → Prop} (h : te σ H fun x H' => ∃ k, x = .bl k ∧ Q' k H') : tTest te σ H Q' := h
theorem rd_tB {Q' : Bool → Hp → Prop} (h : te σ H fun x H' => ∃ k, x = .bl k ∧ Q' k H') : tB te σ H Q' := h
theorem rd_not {Q' : Bool → Hp → Prop} (h : tt σ H fun c H1 => Q' (!c) H1) : tNot tt σ H Q' := h
theorem rd_and {Q' : Bool → Hp → Prop} (h : tt σ H fun c H1 => if c = true then uu σ H1 Q' else Q' false H1) : tAnd tt uu σ H Q' := h
theorem rd_or {Q' : Bool → Hp → Prop} (h : tt σ H fun c H1 => if c = true then Q' true H1 else uu σ H1 Q') : tOr tt uu σ H Q' := h
theorem rd_andV (h : ta σ H fun x H1 => ∃ c, x = .bl c ∧ if c = true then tb σ H1 Q else Q (.bl false) H1) : tAndV ta tb σ H Q := h
theorem rd_orV (h : ta σ H fun x H1 => ∃ c, x = .bl c ∧ if c = true then Q (.bl true) H1 else tb σ H1 Q) : tOrV ta tb σ H Q := h
theorem rd_notV (h : ta σ H fun x H1 => ∃ c, x = .bl c ∧ Q (.bl (!c)) H1) : tNotV ta σ H Q := h
theorem rd_ifE (h : tt σ H fun c H1 => if c = true then ta σ H1 Q else tb σ H1 Q) : tIf tt ta tb σ H Q := h
theorem rd_yes {Q' : Bool → Hp → Prop} (h : Q' true H) : tYes σ H Q' := h
theorem rd_cons {Q' : List V → Hp → Prop} (h : te σ H fun x H1 => ar σ H1 fun xs H2 => Q' (x :: xs) H2) : tCons te ar σ H Q' := h
theorem rd_nil {Q' : List V → Hp → Prop} (h : Q' [] H) : tNil σ H Q' := h
theorem rd_cb {rc : List V → Hp → VK → Prop} (h : ar σ H fun vs H1 => rc vs H1 Q) : tCB rc ar σ H Q := h
theorem rd_call {sp : Sp} {dvs : List V} {E : XK} (h : ar σ H fun vs H1 => sp (vs ++ dvs) H1 Q E) : tCall sp dvs E ar σ H Q := h
theorem rd_callS {sp : Sp} {E : St → XK} (h : ar σ H fun vs H1 => sp vs H1 Q (E σ)) : tCallS sp E ar σ H Q := h
theorem rd_tup (h : ar σ H fun xs H1 => xs.length ≤ sizeLine ∧ ∀ p, H1 p = none → Q (.ref p) (upd H1 p (.tup xs))) : tTup ar σ H Q := h
theorem rd_lst (h : ar σ H fun xs H1 => xs.length ≤ sizeLine ∧ ∀ p, H1 p = none → Q (.ref p) (upd H1 p (.lst xs))) : tLst ar σ H Q := h
theorem rd_sl {rs : V → Option Int → Option Int → Hp → VK → Prop} {tl th : TO} (h : te σ H fun x H1 => tl σ H1 fun l H2 => th σ H2 fun u H3 => rs x l u H3 Q) : tSl rs te tl th σ H Q := h
theorem rd_part {Q' : Option Int → Hp → Prop} (h : te σ H fun x H1 => ∃ i, x = .int i ∧ Q' (some i) H1) : tPart te σ H Q' := h
theorem rd_nopart {Q' : Option Int → Hp → Prop} (h : Q' none H) : tNoPart σ H Q' := h
theorem rd_bm {T : String} {rm : V → List V → Hp → VK → Prop} (h : te σ H fun x H1 => tyV K T x H1 ∧ ar σ H1 fun xs H2 => rm x xs H2 Q) : tBM K T rm te ar σ H Q := h
theorem rd_bm0 {T : String} {rm : V → List V → Hp → VK → Prop} (h : te σ H fun x H1 => tyV K T x H1 ∧ rm x [] H1 Q) : tBM0 K T rm te σ H Q := h
theorem rd_m0 {rm : V → List V → Hp → VK → Prop} (h : te σ H fun x H1 => (∃ a, x = .str a) ∧ rm x [] H1 Q) : tM0 rm te σ H Q := h
theorem rd_m1 {rm : V → List V → Hp → VK → Prop} (h : te σ H fun x H1 => (∃ a, x = .str a) ∧ ta σ H1 fun y H2 => rm x [y] H2 Q) : tM1 rm te ta σ H Q := h
theorem rd_exB {k : Bool} {Q' : Bool → Hp → Prop} (h : Q' k H) : ∃ k', V.bl k = .bl k' ∧ Q' k' H := ⟨k, rfl, h⟩
theorem rd_isS {s : Str} {p : Prop} (h : p) : (∃ a, V.str s = .str a) ∧ p := ⟨⟨s, rfl⟩, h⟩
theorem rd_isI {i : Int} {Q' : Option Int → Hp → Prop} (h : Q' (some i) H) : ∃ j, V.int i = .int j ∧ Q' (some j) H := ⟨i, rfl, h⟩
/-! operators -/
theorem rd_I0 {g : Int → Int → V} {i j : Int} (h : Q (g i j) H) : rI0 g (.int i) (.int j) H Q := ⟨i, j, rfl, rfl, h⟩
theorem rd_I {C : Int → Int → Prop} {g : Int → Int → V} {i j : Int} (c : C i j) (h : Q (g i j) H) : rI C g (.int i) (.int j) H Q := ⟨i, j, rfl, rfl, c, h⟩
theorem rd_U {g : Int → V} {i : Int} (h : Q (g i) H) : rU g (.int i) H Q := ⟨i, rfl, h⟩
theorem rd_eq (e : scal x y = true) (h : Q (.bl (decide (x = y))) H) : rEq x y H Q := ⟨e, h⟩
theorem rd_ne (e : scal x y = true) (h : Q (.bl (!decide (x = y))) H) : rNe x y H Q := ⟨e, h⟩
theorem rd_isN (h : Q (.bl (decide (x = .non))) H) : nIsN x .non H Q := ⟨rfl, h⟩
theorem rd_notN (h : Q (.bl (!decide (x = .non))) H) : nNotN x .non H Q := ⟨rfl, h⟩
theorem rd_addS {i j : Str} (c : i.length + j.length ≤ sizeLine) (h : Q (.str (i ++ j)) H) : nAddS (.str i) (.str j) H Q := ⟨i, j, rfl, rfl, c, h⟩
theorem rd_inS {i j : Str} (h : Q (.bl (!(Builtin.Str.occurrences j i 0 j.length 1).isEmpty)) H) : nInS (.str i) (.str j) H Q := ⟨i, j, rfl, rfl, h⟩
theorem rd_notinS {i j : Str} (h : Q (.bl (!(!(Builtin.Str.occurrences j i 0 j.length 1).isEmpty))) H) : nNotinS (.str i) (.str j) H Q := ⟨i, j, rfl, rfl, h⟩
theorem rd_repS {z : Str} {i : Int} (c : MulOk z i) (h : Q (.str (Txt.mul z i)) H) : nRepS (.str z) (.int i) H Q := ⟨z, i, rfl, rfl, c, h⟩
theorem rd_ixL {p : Addr} {xs : List V} {i : Int} (hs : SqL K H p xs) (ha : atI xs i = some v) (h : Q v H) : rIxL K (.ref p) (.int i) H Q := ⟨p, xs, i, v, rfl, rfl, hs, ha, h⟩
theorem rd_ixT {p : Addr} {xs : List V} {i : Int} (hs : SqT K H p xs) (ha : atI xs i = some v) (h : Q v H) : rIxT K (.ref p) (.int i) H Q := ⟨p, xs, i, v, rfl, rfl, hs, ha, h⟩
theorem rd_ixS {z : Str} {i : Int} {c : Nat} (hz : z.length ≤ sizeLine) (ha : atI z.cps.toList i = some c) (h : Q (.str ⟨#[c]⟩) H) : rIxS (.str z) (.int i) H Q := ⟨z, i, c, rfl, rfl, hz, ha, h⟩
theorem rd_slS {z : Str} {lo hi : Option Int} (hz : z.length ≤ sizeLine) (h : Q (.str (cutS z lo hi)) H) : rSlS (.str z) lo hi H Q := ⟨z, rfl, hz, h⟩
theorem rd_slL {a : Addr} {xs : List V} {lo hi : Option Int} (hs : SqL K H a xs) (h : ∀ p, H p = none → Q (.ref p) (upd H p (.lst (cutV xs lo hi)))) : rSlL K (.ref a) lo hi H Q := ⟨a, xs, rfl, hs, h⟩
theorem rd_setL {p : Addr} {xs : List V} {i : Int} {j : Nat} {Q' : Hp → Prop} (hs : H p = some (.lst xs)) (hi : ixN xs.length i = some j) (h : Q' (upd H p (.lst (xs.set j v)))) : rSetL (.ref p) (.int i) v H Q' := ⟨p, xs, i, j, rfl, rfl, hs, hi, h⟩
/-! calls -/
theorem rd_lenS {z : Str} (c : z.length ≤ sizeLine) (h : Q (.int z.length) H) : nLenS [.str z] H Q := ⟨z, rfl, c, h⟩
theorem rd_lenL {p : Addr} {ys : List V} (hs : SqL K H p ys) (h : Q (.int ys.length) H) : nLenL K [.ref p] H Q := ⟨p, ys, rfl, .inl hs, h⟩
theorem rd_lenT {p : Addr} {ys : List V} (hs : SqT K H p ys) (h : Q (.int ys.length) H) : nLenL K [.ref p] H Q := ⟨p, ys, rfl, .inr hs, h⟩
theorem rd_abs {i : Int} (h : Q (.int (if i < 0 then -i else i)) H) : nAbs [.int i] H Q := ⟨i, rfl, h⟩
theorem rd_max {i j : Int} (h : Q (.int (if j > i then j else i)) H) : nMax [.int i, .int j] H Q := ⟨i, j, rfl, h⟩
theorem rd_min {i j : Int} (h : Q (.int (if j < i then j else i)) H) : nMin [.int i, .int j] H Q := ⟨i, j, rfl, h⟩
theorem rd_int {i : Int} (h : Q (.int i) H) : nInt [.int i] H Q := .inl ⟨i, rfl, h⟩
theorem rd_ord {c : Nat} (h : Q (.int c) H) : nOrd [.str ⟨#[c]⟩] H Q := ⟨⟨#[c]⟩, rfl, rfl, h⟩
theorem rd_isi {d : PyData} {T : String} {b : Bool} (hd : Dp K H v d) (hk : kitB (PyData.ty d) T = some b) (h : Q (.bl b) H) : rIsi K [v, .ty T] H Q := r_isi hd.ty hk h
theorem rd_tupOf {p : Addr} {ys : List V} (hs : SqL K H p ys) (h : ∀ l, H l = none → Q (.ref l) (upd H l (.tup ys))) : nTupOf K [.ref p] H Q := ⟨p, ys, rfl, .inl ⟨hs, h⟩⟩
theorem rd_lstOfL {p : Addr} {ys : List V} (hs : SqL K H p ys) (h : ∀ l, H l = none → Q (.ref l) (upd H l (.lst ys))) : nLstOf K [.ref p] H Q := ⟨p, ys, rfl, .inl hs, h⟩
theorem rd_lstOfT {p : Addr} {ys : List V} (hs : SqT K H p ys) (h : ∀ l, H l = none → Q (.ref l) (upd H l (.lst ys))) : nLstOf K [.ref p] H Q := ⟨p, ys, rfl, .inr hs, h⟩
theorem rd_join {a : Str} {p : Addr} {ys : List Str} (hs : SqL K H p (ys.map V.str)) (c : (ys.map (·.length)).sum + ys.length * a.length ≤ 16777216) (h : Q (.str (Txt.join a ys)) H) : nJoin K (.str a) [.ref p] H Q := ⟨a, p, ys, rfl, rfl, .inl hs, c, h⟩
theorem rd_stripC {a b : Str} (c : a.length ≤ sizeLine) (h : Q (.str (Txt.stripChars a b)) H) : nStripC (.str a) [.str b] H Q := ⟨a, b, rfl, rfl, c, h⟩
theorem rd_append {l : Addr} {xs : List V} (hs : H l = some (.lst xs)) (c : xs.length < sizeLine) (h : Q .non (upd H l (.lst (xs ++ [y])))) : rAppend (.ref l) [y] H Q := ⟨l, xs, y, rfl, rfl, hs, c, h⟩
theorem rd_tyL {p : Addr} {xs : List V} {P : Prop} (hs : SqL K H p xs) (h : P) : tyV K "list" (.ref p) H ∧ P := ⟨.inl ⟨rfl, xs, hs⟩, h⟩
theorem rd_all {a : Addr} {bs : List Bool} (hs : SqL K H a (bs.map V.bl)) (h : Q (.bl (bs.all id)) H) : rAll K [.ref a] H Q := ⟨a, bs, rfl, hs, h⟩
theorem rd_isN_non (h : Q (.bl true) H) : nIsN .non .non H Q := ⟨rfl, h⟩
theorem rd_isN_int {i : Int} (h : Q (.bl false) H) : nIsN (.int i) .non H Q := ⟨rfl, h⟩
theorem rd_isN_str {i : Str} (h : Q (.bl false) H) : nIsN (.str i) .non H Q := ⟨rfl, h⟩
theorem rd_isN_ref {i : Addr} (h : Q (.bl false) H) : nIsN (.ref i) .non H Q := ⟨rfl, h⟩
theorem rd_isN_bl {i : Bool} (h : Q (.bl false) H) : nIsN (.bl i) .non H Q := ⟨rfl, h⟩
theorem rd_notN_non (h : Q (.bl false) H) : nNotN .non .non H Q := ⟨rfl, h⟩
theorem rd_notN_int {i : Int} (h : Q (.bl true) H) : nNotN (.int i) .non H Q := ⟨rfl, h⟩
theorem rd_notN_str {i : Str} (h : Q (.bl true) H) : nNotN (.str i) .non H Q := ⟨rfl, h⟩
theorem rd_notN_ref {i : Addr} (h : Q (.bl true) H) : nNotN (.ref i) .non H Q := ⟨rfl, h⟩
theorem rd_nT {A B : Prop} (h : B) : if (!true) = true then A else B := h
theorem rd_nF {A B : Prop} (h : A) : if (!false) = true then A else B := h
end
theorem sqL_of {K : PySem.W.Frag} {H : Hp} {a : Addr} {xs : List V} (h : H a = some (.lst xs)) : SqL K H a xs := .inl (.inl h)
theorem sqT_of {K : PySem.W.Frag} {H : Hp} {a : Addr} {xs : List V} (h : H a = some (.tup xs)) : SqT K H a xs := .inl (.inl h)
theorem sz (n : Nat) (h : n ≤ 1000000 := by omega) : n ≤ sizeLine := Nat.le_trans h (by rw [sizeLine_eq]; decide)
end L2
/-! texts as lists of signs: readings and laws -/
namespace L2
open PySem PySem.Spec PyProof.Rows
open SX (S)
section
variable {K : PySem.W.Frag} {σ : St} {H : Hp} {Q : VK} {v : V} {a : List Nat}
theorem rd_lenA (c : a.length ≤ sizeLine) (h : Q (.int a.length) H) : nLenS [.str (S a)] H Q := rd_lenS (by rw [SX.S_len]; exact c) (by rw [SX.S_len]; exact h)
theorem at_nat {α : Type} {xs : List α} {k : Nat} (h : k < xs.length) : atI xs (k : Int) = some xs[k] := by
  unfold atI ixN
  rw [if_pos (by omega), if_pos (by omega)]
  simp [h]
theorem at_last {α : Type} {xs : List α} (h : 0 < xs.length) : atI xs (-1) = some (xs[xs.length - 1]'(by omega)) := by
  unfold atI ixN
  rw [if_neg (by omega), if_pos (by omega)]
  have e : ((-1 : Int) + (xs.length : Int)).toNat = xs.length - 1 := by omega
  rw [e]
  simp [show xs.length - 1 < xs.length by omega]
theorem rd_ixA {k : Nat} {i : Int} (e : i = k) (hz : a.length ≤ sizeLine) (hk : k < a.length) (h : Q (.str (S [a[k]])) H) : rIxS (.str (S a)) (.int i) H Q := by
  subst e
  exact rd_ixS (by rw [SX.S_len]; exact hz) (at_nat (xs := a) hk) h
theorem rd_ixE (hz : a.length ≤ sizeLine) (hk : 0 < a.length) (h : Q (.str (S [a[a.length - 1]'(by omega)])) H) : rIxS (.str (S a)) (.int (-1)) H Q :=
  rd_ixS (by rw [SX.S_len]; exact hz) (at_last (xs := a) hk) h
theorem cut_to (k : Nat) : cutS (S a) none (some (k : Int)) = S (a.take k) := by
  unfold cutS
  rw [HT.sIx_none, HT.sIx_nat, SX.S_len, List.drop_zero, Nat.sub_zero]
  show S (a.take _) = _
  rw [show a.take (min k a.length) = a.take k by
    by_cases h : k ≤ a.length
    · rw [Nat.min_eq_left h]
    · rw [Nat.min_eq_right (by omega), List.take_length, List.take_of_length_le (by omega)]]
theorem cut_from (k : Nat) : cutS (S a) (some (k : Int)) none = S (a.drop k) := by
  unfold cutS
  rw [HT.sIx_none, HT.sIx_nat, SX.S_len]
  show S ((a.drop _).take _) = _
  congr 1
  by_cases h : k ≤ a.length
  · rw [Nat.min_eq_left h, List.take_of_length_le (by rw [List.length_drop]; omega)]
  · rw [Nat.min_eq_right (by omega), List.drop_length, List.take_nil, List.drop_of_length_le (by omega)]
theorem cut_mid (k m : Nat) : cutS (S a) (some (k : Int)) (some (m : Int)) = S ((a.drop k).take (m - k)) := by
  unfold cutS
  rw [HT.sIx_nat, HT.sIx_nat, SX.S_len]
  show S ((a.drop _).take _) = _
  congr 1
  by_cases h : k ≤ a.length
  · rw [Nat.min_eq_left h]
    by_cases h2 : m ≤ a.length
    · rw [Nat.min_eq_left h2]
    · rw [Nat.min_eq_right (show a.length ≤ m by omega), List.take_of_length_le (by rw [List.length_drop]; omega), List.take_of_length_le (by rw [List.length_drop]; omega)]
  · rw [Nat.min_eq_right (show a.length ≤ k by omega), List.drop_length, List.take_nil, List.drop_of_length_le (by omega), List.take_nil]
theorem rd_to {k : Nat} {i : Int} (e : i = k) (hz : a.length ≤ sizeLine) (h : Q (.str (S (a.take k))) H) : rSlS (.str (S a)) none (some i) H Q := by
  subst e
  exact rd_slS (by rw [SX.S_len]; exact hz) (by rw [cut_to]; exact h)
theorem rd_from {k : Nat} {i : Int} (e : i = k) (hz : a.length ≤ sizeLine) (h : Q (.str (S (a.drop k))) H) : rSlS (.str (S a)) (some i) none H Q := by
  subst e
  exact rd_slS (by rw [SX.S_len]; exact hz) (by rw [cut_from]; exact h)
theorem rd_mid {k m : Nat} {i j : Int} (e : i = k) (e2 : j = m) (hz : a.length ≤ sizeLine) (h : Q (.str (S ((a.drop k).take (m - k)))) H) : rSlS (.str (S a)) (some i) (some j) H Q := by
  subst e
  subst e2
  exact rd_slS (by rw [SX.S_len]; exact hz) (by rw [cut_mid]; exact h)
theorem rd_addA {b : List Nat} (c : a.length + b.length ≤ sizeLine) (h : Q (.str (S (a ++ b))) H) : nAddS (.str (S a)) (.str (S b)) H Q := rd_addS (by rw [SX.S_len, SX.S_len]; exact c) (by rw [SX.S_cat]; exact h)
theorem sumlen (ys : List (List Nat)) : ((ys.map S).map (·.length)).sum = (ys.map (·.length)).sum := by rw [SX.lens]
theorem rd_joinA {p : Addr} {ys : List (List Nat)} (hs : SqL K H p (ys.map fun y => V.str (S y))) (c : (ys.map (·.length)).sum + ys.length * a.length ≤ 16777216) (h : Q (.str (S (TL.joinL a ys))) H) : nJoin K (.str (S a)) [.ref p] H Q := by
  refine rd_join (ys := ys.map S) ?_ ?_ ?_
  · rw [List.map_map]
    exact hs
  · rw [sumlen, List.length_map, SX.S_len]
    exact c
  · rw [SX.join_S]
    exact h
theorem S_one (x : Nat) (y : Nat) : (decide (V.str (S [x]) = V.str (S [y]))) = decide (x = y) := by
  by_cases h : x = y
  · subst h
    simp
  · rw [decide_eq_false h, decide_eq_false]
    intro e
    have e2 : S [x] = S [y] := by injection e
    have e3 := SX.S_inj e2
    injection e3 with e4
    exact h e4
theorem ix_tupK {X : Cx} (h : X.K = K) : IxR X (rIxT K) := h ▸ ix_tup
theorem ix_listK {X : Cx} (h : X.K = K) : IxR X (rIxL K) := h ▸ ix_list
/-! for, over -/
theorem rd_for {wi : TI} {g : TG} {tb : TS} {nx : St → Hp → Prop} {rt : VK} {bk ct : St → Hp → Prop} (h : wi σ H fun J H1 => ∃ W : Nat → Nat → St → Hp → Prop, (∃ m, W 0 m σ H1) ∧ ∀ i m σ H, W i m σ H →
  (J.stop i H ∧ nx σ H) ∨ (J.go i H ∧ ∃ N : St → Hp → Prop, (∀ σ' H', N σ' H' → ∃ m', m' < m ∧ W (i + 1) m' σ' H') ∧ ∀ x H', J.yld i H x H' → g x σ H' fun σ2 H2 => tb ⟨N, rt, nx, N⟩ σ2 H2)) : tFor wi g tb ⟨nx, rt, bk, ct⟩ σ H := h
theorem rd_lc {wi : TI} {g : TG} {tt : TT} {te : TE} {vs : List Nat} (h : wi σ H fun J H1 => ∀ D, H1 D = none → ∃ W : Nat → Nat → Hp → Prop, (∃ m, W 0 m (upd H1 D (.lst []))) ∧ ∀ i m H, W i m H →
  (J.stop i H ∧ Q (.ref D) H) ∨ (J.go i H ∧ ∃ Nx : Hp → Prop, (∀ H', Nx H' → ∃ m', m' < m ∧ W (i + 1) m' H') ∧ ∀ x H', J.yld i H x H' → g x (wipe σ vs) H' fun σ2 H2 => wipe σ2 vs = wipe σ vs ∧ tt σ2 H2 fun b H3 =>
    if b = true then te σ2 H3 fun y H4 => ∃ acc, H4 D = some (.lst acc) ∧ acc.length < sizeLine ∧ Nx (upd H4 D (.lst (acc ++ [y]))) else Nx H3)) : tLc wi g tt te vs σ H Q := h
theorem forIt {J : It} {n : Nat} {G : Hp → Prop} {Y : Nat → Hp → V → Hp → Prop} (w : Walk J n G Y) {g : TG} {tb : TS} {nx : St → Hp → Prop} {rt : VK} (Pv : Nat → St → Hp → Prop) (h0 : Pv 0 σ H) (hG : ∀ i σ H, i ≤ n → Pv i σ H → G H)
    (hs : ∀ i x σ H H', i < n → Pv i σ H → Y i H x H' → g x σ H' fun σ2 H2 => tb ⟨Pv (i + 1), rt, nx, Pv (i + 1)⟩ σ2 H2) (hd : ∀ σ H, Pv n σ H → nx σ H) :
    ∃ W : Nat → Nat → St → Hp → Prop, (∃ m, W 0 m σ H) ∧ ∀ i m σ H, W i m σ H →
      (J.stop i H ∧ nx σ H) ∨ (J.go i H ∧ ∃ N : St → Hp → Prop, (∀ σ' H', N σ' H' → ∃ m', m' < m ∧ W (i + 1) m' σ' H') ∧ ∀ x H', J.yld i H x H' → g x σ H' fun σ2 H2 => tb ⟨N, rt, nx, N⟩ σ2 H2) :=
  for_it (D := ⟨nx, rt, nx, nx⟩) w Pv h0 hG hs hd
theorem rd_wr {p : Addr} {xs : List V} {i : Int} {j : Nat} {Q' : Hp → Prop} (hs : H p = some (.lst xs)) (hi : ixN xs.length i = some j) (h : ∀ H' : Hp, (∀ b, b ≠ p → H' b = H b) → H' p = some (.lst (xs.set j v)) → Q' H') : rSetL (.ref p) (.int i) v H Q' :=
  rd_setL hs hi (h _ (fun b n => upd_ne n) upd_same)
theorem rd_mod {g : Int → Int → V} {i j : Int} (c : 0 < j) (h : Q (g i j) H) : rI (fun _ j => 0 < j) g (.int i) (.int j) H Q := rd_I c h
theorem rd_div {g : Int → Int → V} {i j : Int} (c : 0 < j) (c2 : j < 1073741824) (h : Q (g i j) H) : rI CDiv g (.int i) (.int j) H Q := rd_I ⟨c, c2⟩ h
theorem rd_mulL {g : Int → Int → V} {i j : Int} (c : -(2 ^ 62) ≤ i) (c2 : i < 2 ^ 62) (h : Q (g i j) H) : rI CMul g (.int i) (.int j) H Q := rd_I (.inl ⟨by omega, by omega⟩) h
theorem rd_mulR {g : Int → Int → V} {i j : Int} (c : -(2 ^ 62) ≤ j) (c2 : j < 2 ^ 62) (h : Q (g i j) H) : rI CMul g (.int i) (.int j) H Q := rd_I (.inr ⟨by omega, by omega⟩) h
theorem rd_pow {g : Int → Int → V} {i j : Int} (c : 0 ≤ j) (c2 : (Builtin.Int.intBits i : Int) * j ≤ 2 ^ 27) (h : Q (g i j) H) : rI CPowB g (.int i) (.int j) H Q := rd_I ⟨c, c2⟩ h
theorem Fr.wr {a c : Addr} {H0 H1 H2 : Hp} (f : Fr (some (a, c)) H0 H1) (e : ∀ b, b ≠ a → H2 b = H1 b) : Fr (some (a, c)) H0 H2 := fun b o n hb => by
  rw [e b n]
  exact f b o n hb
/-- a statement, with what holds behind it -/
theorem rd_cut {t u : TS} {nx : St → Hp → Prop} {rt : VK} {bk ct : St → Hp → Prop} (M : St → Hp → Prop) (h2 : ∀ σ' H', M σ' H' → u ⟨nx, rt, bk, ct⟩ σ' H') (h : ∀ nx' : St → Hp → Prop, (∀ σ' H', M σ' H' → nx' σ' H') → t ⟨nx', rt, bk, ct⟩ σ H) : tSeq t u ⟨nx, rt, bk, ct⟩ σ H := h (u ⟨nx, rt, bk, ct⟩) h2
theorem rd_truL {p : Addr} {xs : List V} {Q' : Bool → Prop} (hs : SqL K H p xs) (h : Q' (!xs.isEmpty)) : ∃ k, TruV K (.ref p) H k ∧ Q' k := ⟨_, .inl ⟨xs, hs, rfl⟩, h⟩
theorem rd_tT {A B : Prop} (h : A) : if true = true then A else B := by rw [if_pos rfl]; exact h
theorem rd_iStr {te : TE} {R : It → Hp → Prop} (h : te σ H fun v H1 => ∃ x, v = .str x ∧ R (Its x) H1) : iStr te σ H R := h
theorem rd_rng1 {ta : TA} {R : It → Hp → Prop} (h : ta σ H fun vs H1 => ∃ j : Int, vs = [.int j] ∧ -(2 ^ 62) ≤ j ∧ j < 2 ^ 62 ∧ R (Itr 0 j.toNat) H1) : iRng1 ta σ H R := h
theorem rd_rngN {n : Nat} {R : Int → Prop} (c : n < 16000000) (h : R (n : Int)) : ∃ j : Int, [V.int n] = [.int j] ∧ -(2 ^ 62) ≤ j ∧ j < 2 ^ 62 ∧ R j := ⟨n, rfl, by omega, by omega, h⟩
theorem rd_rngI {i : Int} {R : Int → Prop} (c : -16000000 < i ∧ i < 16000000) (h : R i) : ∃ j : Int, [V.int i] = [.int j] ∧ -(2 ^ 62) ≤ j ∧ j < 2 ^ 62 ∧ R j := ⟨i, rfl, by omega, by omega, h⟩
theorem rd_iList {te : TE} {R : It → Hp → Prop} (h : te σ H fun x H1 => ∃ a, x = .ref a ∧ (∃ xs, SqL K H1 a xs) ∧ R (Itl K a) H1) : iList K te σ H R := h
/-- a comprehension that leaves all as it was -/
theorem lcF {J : It} {n : Nat} {G : Hp → Prop} {Y : Nat → Hp → V → Hp → Prop} {j : Nat} {tt : TT} {te : TE} {vs : List Nat} {σ : St} {H1 : Hp} {D : Addr} {Qd : Hp → Prop} (wk : Walk J n G Y) (b : Nat → Bool) (f : Nat → V)
    (hD : H1 D = none) (hn : n < 16000000) (hw : ∀ x, wipe ((wipe σ vs).set j (some x)) vs = wipe σ vs) (hG : ∀ H', Same H1 H' → G H') (hY : ∀ i H x H', Y i H x H' → H' = H)
    (ht : ∀ i x H2, i < n → Same H1 H2 → Y i H2 x H2 → ∀ Q' : Bool → Hp → Prop, Q' (b i) H2 → tt ((wipe σ vs).set j (some x)) H2 Q')
    (he : ∀ i x H2, i < n → b i = true → Same H1 H2 → Y i H2 x H2 → ∀ Q' : VK, Q' (f i) H2 → te ((wipe σ vs).set j (some x)) H2 Q')
    (hd : ∀ H', Same H1 H' → H' D = some (.lst ((kept n b).map f)) → Qd H') :
    ∃ W : Nat → Nat → Hp → Prop, (∃ m, W 0 m (upd H1 D (.lst []))) ∧ ∀ i m H, W i m H →
      (J.stop i H ∧ Qd H) ∨ (J.go i H ∧ ∃ Nx : Hp → Prop, (∀ H', Nx H' → ∃ m', m' < m ∧ W (i + 1) m' H') ∧ ∀ x H', J.yld i H x H' → gName j x (wipe σ vs) H' fun σ2 H2 => wipe σ2 vs = wipe σ vs ∧ tt σ2 H2 fun b H3 =>
        if b = true then te σ2 H3 fun y H4 => ∃ acc, H4 D = some (.lst acc) ∧ acc.length < sizeLine ∧ Nx (upd H4 D (.lst (acc ++ [y]))) else Nx H3) := by
  refine lc_it (Qd := Qd) wk (fun i H' => i ≤ n ∧ Same H1 H' ∧ H' D = some (.lst ((kept i b).map f))) ?_ ?_ ?_ ?_
  · exact ⟨Nat.zero_le _, Same.upd hD, upd_same⟩
  · rintro i H' _ ⟨_, e, _⟩
    exact hG H' e
  · rintro i x H2 H3 hi ⟨_, e, hy⟩ yy
    have e3 := hY _ _ _ _ yy
    subst e3
    refine ⟨hw x, ht i x H3 hi e yy _ ?_⟩
    cases hb : b i with
    | true =>
      refine iteT (he i x H3 hi hb e yy _ ⟨_, hy, ?_, by omega, e.mut hD, ?_⟩)
      · have hk := kept_len i b
        rw [List.length_map, sizeLine_eq]
        omega
      · rw [kept_yes hb, List.map_append]
        exact upd_same
    | false =>
      refine iteF ⟨by omega, e, ?_⟩
      rw [kept_no hb]
      exact hy
  · rintro H' ⟨_, e, hy⟩
    exact hd H' e hy
theorem range_map {α β : Type} (l : List α) (g : α → β) (f : Nat → β) (h : ∀ i (hi : i < l.length), f i = g l[i]) : (List.range l.length).map f = l.map g := by
  refine List.ext_getElem (by simp) fun i h1 h2 => ?_
  simp only [List.getElem_map, List.getElem_range]
  exact h i (by simpa using h2)
theorem paired_map {α : Type} {f : α → V} : ∀ {l : List α} {ys : List V}, Paired (fun i y => y = f i) l ys → ys = l.map f := by
  intro l ys h
  induction h with
  | nil => rfl
  | cons h1 h2 ih => rw [List.map_cons, h1, ih]
end
/-! ### texts without double blanks -/
def dblL : List Nat → Bool
  | [] => false
  | c :: r => (c == 32 && r.head? == some 32) || dblL r
def dbl (s : Str) : Bool := !(Builtin.Str.occurrences s "  " 0 s.length 1).isEmpty
theorem dbl_mem (a : List Nat) : (∃ i, (a.drop i).take 2 = [32, 32]) ↔ dblL a = true := by
  induction a with
  | nil => simp [dblL]
  | cons c r ih =>
    show _ ↔ ((c == 32 && r.head? == some 32) || dblL r) = true
    rw [Bool.or_eq_true, ← ih]
    constructor
    · rintro ⟨i, h⟩
      cases i with
      | zero =>
        left
        cases r with
        | nil => simp at h
        | cons d r =>
          simp at h
          simp [h.1, h.2]
      | succ i => exact .inr ⟨i, h⟩
    · rintro (h | ⟨i, h⟩)
      · refine ⟨0, ?_⟩
        cases r with
        | nil => simp at h
        | cons d r =>
          simp at h
          simp [h.1, h.2]
      · exact ⟨i + 1, h⟩
theorem dbl_S (a : List Nat) : dbl (S a) = dblL a := by
  rw [Bool.eq_iff_iff, ← dbl_mem]
  unfold dbl
  rw [StrLaws.found_iff]
  constructor
  · rintro ⟨i, _, h⟩
    rw [StrLaws.subAt_eq] at h
    exact ⟨i, eq_of_beq h⟩
  · rintro ⟨i, h⟩
    refine ⟨i, ?_, ?_⟩
    · have e := congrArg List.length h
      rw [List.length_take, List.length_drop] at e
      have e2 : min 2 (a.length - i) = 2 := e
      have e3 := SX.S_len a
      show i + 2 ≤ (S a).length
      omega
    · rw [StrLaws.subAt_eq]
      exact beq_iff_eq.mpr h
theorem dblL_app : ∀ {u v : List Nat}, dblL u = false → dblL v = false → (u.getLast? ≠ some 32 ∨ v.head? ≠ some 32) → dblL (u ++ v) = false
  | [], v, _, hv, _ => hv
  | [c], v, _, hv, h => by
    show ((c == 32 && v.head? == some 32) || dblL v) = false
    rw [hv, Bool.or_false]
    cases h1 : (c == 32) with
    | false => rfl
    | true =>
      have e := eq_of_beq h1
      subst e
      rcases h with h | h
      · exact absurd rfl h
      · rw [Bool.true_and]
        exact beq_eq_false_iff_ne.mpr h
  | c :: d :: r, v, hu, hv, h => by
    have hu2 : ((c == 32 && some d == some 32) || dblL (d :: r)) = false := hu
    rw [Bool.or_eq_false_iff] at hu2
    show ((c == 32 && some d == some 32) || dblL ((d :: r) ++ v)) = false
    rw [hu2.1, Bool.false_or]
    exact dblL_app hu2.2 hv (by rwa [List.getLast?_cons_cons] at h)
theorem dblL_left : ∀ {u v : List Nat}, dblL (u ++ v) = false → dblL u = false
  | [], _, _ => rfl
  | [c], v, _ => by
    show ((c == 32 && none == some 32) || false) = false
    simp
  | c :: d :: r, v, h => by
    have h2 : ((c == 32 && some d == some 32) || dblL ((d :: r) ++ v)) = false := h
    rw [Bool.or_eq_false_iff] at h2
    show ((c == 32 && some d == some 32) || dblL (d :: r)) = false
    rw [h2.1, Bool.false_or]
    exact dblL_left h2.2
theorem dblL_free {u : List Nat} (h : ∀ c ∈ u, c ≠ 32) : dblL u = false := by
  induction u with
  | nil => rfl
  | cons c r ih =>
    show ((c == 32 && r.head? == some 32) || dblL r) = false
    rw [ih fun d hd => h d (List.mem_cons_of_mem _ hd), beq_eq_false_iff_ne.mpr (h c (List.mem_cons_self ..))]
    rfl
/-- words between single blanks -/
def Jn (u : List Nat) : Prop := dblL u = false ∧ u ≠ [] ∧ u.head? ≠ some 32 ∧ u.getLast? ≠ some 32
theorem Jn.word {u : List Nat} (n : u ≠ []) (h : ∀ c ∈ u, c ≠ 32) : Jn u := by
  refine ⟨dblL_free h, n, fun e => ?_, fun e => ?_⟩
  · exact h 32 (List.mem_of_mem_head? e) rfl
  · exact h 32 (List.mem_of_getLast? e) rfl
theorem Jn.app {u v : List Nat} (hu : Jn u) (hv : Jn v) : Jn (u ++ 32 :: v) := by
  obtain ⟨a1, a2, a3, a4⟩ := hu
  obtain ⟨b1, b2, b3, b4⟩ := hv
  refine ⟨dblL_app a1 ?_ (.inl a4), by simp, ?_, ?_⟩
  · show ((32 == 32 && v.head? == some 32) || dblL v) = false
    rw [b1, beq_eq_false_iff_ne.mpr b3]
    rfl
  · cases u with
    | nil => exact absurd rfl a2
    | cons c r => exact a3
  · rw [List.getLast?_append]
    cases v with
    | nil => exact absurd rfl b2
    | cons c r =>
      rw [List.getLast?_cons_cons]
      cases q : (c :: r).getLast? with
      | none => simp at q
      | some x =>
        rw [q] at b4
        exact b4
theorem Jn.join : ∀ {ps : List (List Nat)}, ps ≠ [] → (∀ p ∈ ps, Jn p) → Jn (TL.joinL [32] ps)
  | [], h, _ => absurd rfl h
  | [p], _, h => h p (List.mem_cons_self ..)
  | p :: q :: r, _, h => (h p (List.mem_cons_self ..)).app (Jn.join (ps := q :: r) (by simp) fun x hx => h x (List.mem_cons_of_mem _ hx))
theorem joinL_all {p : Nat → Bool} (h32 : p 32 = true) : ∀ {ps : List (List Nat)}, (∀ x ∈ ps, x.all p = true) → (TL.joinL [32] ps).all p = true
  | [], _ => rfl
  | [x], h => h x (List.mem_cons_self ..)
  | x :: y :: r, h => by
    show (x ++ ([32] ++ TL.joinL [32] (y :: r))).all p = true
    rw [List.all_append, List.all_append, h x (List.mem_cons_self ..), joinL_all h32 (ps := y :: r) fun z hz => h z (List.mem_cons_of_mem _ hz)]
    simp [h32]
theorem joinL_len : ∀ {ps : List (List Nat)}, (TL.joinL [32] ps).length + 1 = (ps.map (·.length)).sum + ps.length + (if ps = [] then 1 else 0)
  | [] => rfl
  | [x] => by
    show x.length + 1 = _
    simp
  | x :: y :: r => by
    have ih := joinL_len (ps := y :: r)
    show (x ++ ([32] ++ TL.joinL [32] (y :: r))).length + 1 = _
    simp only [List.length_append, List.length_cons, List.length_nil, List.map_cons, List.sum_cons, if_neg (show ¬ (x :: y :: r = []) by simp), if_neg (show ¬ (y :: r = []) by simp)] at ih ⊢
    omega
/-- the end's blanks off -/
def rtrim (a : List Nat) : List Nat := (a.reverse.dropWhile (· == 32)).reverse
theorem rtrim_pre (a : List Nat) : ∃ t, a = rtrim a ++ t ∧ ∀ c ∈ t, c = 32 := by
  refine ⟨(a.reverse.takeWhile (· == 32)).reverse, ?_, ?_⟩
  · unfold rtrim
    rw [← List.reverse_append, List.takeWhile_append_dropWhile, List.reverse_reverse]
  · intro c hc
    rw [List.mem_reverse] at hc
    have h2 := List.all_takeWhile (p := fun c : Nat => (c == 32)) (l := a.reverse)
    exact eq_of_beq (List.all_eq_true.mp h2 c hc)
theorem strip_rtrim {a : List Nat} (h : a.head? ≠ some 32) : Txt.stripChars (S a) (S [32]) = S (rtrim a) := by
  have hg : (S [32]).cps.contains = fun c : Nat => (c == 32) := by
    funext c
    show (#[32] : Array Nat).contains c = _
    rw [Bool.eq_iff_iff]
    simp
  unfold Txt.stripChars Txt.stripBy
  rw [hg]
  have lo : stripLo (fun c : Nat => (c == 32)) true (S a) = 0 := by
    unfold stripLo
    rw [if_pos rfl]
    show (a.takeWhile _).length = 0
    cases a with
    | nil => rfl
    | cons c r =>
      have n : (c == 32) = false := beq_eq_false_iff_ne.mpr fun e => h (by rw [e]; rfl)
      rw [List.takeWhile_cons_of_neg (by rw [n]; decide)]
      rfl
  have hi : stripHi (fun c : Nat => (c == 32)) true (S a) 0 = (rtrim a).length := by
    unfold stripHi
    rw [if_pos rfl, SX.S_len]
    show a.length - ((a.drop 0).reverse.takeWhile _).length = _
    rw [List.drop_zero]
    unfold rtrim
    rw [List.length_reverse]
    have e := congrArg List.length (List.takeWhile_append_dropWhile (p := fun c : Nat => (c == 32)) (l := a.reverse))
    rw [List.length_append, List.length_reverse] at e
    omega
  obtain ⟨t, et, _⟩ := rtrim_pre a
  cases hs : stripSame (fun c : Nat => (c == 32)) true true (S a) with
  | true =>
    rw [if_pos rfl]
    unfold stripSame at hs
    rw [lo, hi, SX.S_len, Bool.and_eq_true] at hs
    have e2 := eq_of_beq hs.2
    have e3 := congrArg List.length et
    rw [List.length_append] at e3
    have e4 : t = [] := List.eq_nil_of_length_eq_zero (by omega)
    rw [e4, List.append_nil] at et
    rw [← et]
  | false =>
    rw [if_neg (by decide)]
    unfold stripped
    rw [lo, hi]
    refine TL.ext_tl ?_
    show (Str.cps (Builtin.Str.strSub (S a) 0 _)).toList = rtrim a
    unfold Builtin.Str.strSub
    simp
    have q : ∀ m : Nat, m = (rtrim a).length → List.take m a = rtrim a := fun m hm => by
      rw [hm]
      conv => lhs; arg 2; rw [et]
      rw [List.take_left]
    exact q _ rfl
theorem rtrim_last (a : List Nat) : (rtrim a).getLast? ≠ some 32 := by
  unfold rtrim
  rw [List.getLast?_reverse]
  intro e
  have h := List.head?_dropWhile_not (fun c : Nat => (c == 32)) a.reverse
  rw [e] at h
  simp at h
theorem rtrim_jn {u : List Nat} {n : Nat} (h : Jn u) (hn : 0 < n) : Jn (rtrim (u.take n)) := by
  obtain ⟨a1, a2, a3, a4⟩ := h
  have hh : (u.take n).head? = u.head? := by
    cases u with
    | nil => exact absurd rfl a2
    | cons c r =>
      cases n with
      | zero => omega
      | succ n => rfl
  obtain ⟨t, et, ht⟩ := rtrim_pre (u.take n)
  have ne : rtrim (u.take n) ≠ [] := fun e => by
    rw [e, List.nil_append] at et
    cases u with
    | nil => exact a2 rfl
    | cons c r =>
      cases n with
      | zero => omega
      | succ n =>
        have hc : c ∈ t := by
          rw [← et, List.take_succ_cons]
          exact List.mem_cons_self ..
        exact a3 (by rw [ht c hc]; rfl)
  refine ⟨?_, ne, ?_, rtrim_last _⟩
  · have d1 : dblL (u.take n) = false := dblL_left (v := u.drop n) (by rw [List.take_append_drop]; exact a1)
    rw [et] at d1
    exact dblL_left d1
  · have e2 : (rtrim (u.take n)).head? = (u.take n).head? := by
      conv => rhs; rw [et]
      cases q : rtrim (u.take n) with
      | nil => exact absurd q ne
      | cons c r => rfl
    rw [e2, hh]
    exact a3
theorem rtrim_sub {u : List Nat} {n : Nat} {c : Nat} (h : c ∈ rtrim (u.take n)) : c ∈ u := by
  obtain ⟨t, et, ht⟩ := rtrim_pre (u.take n)
  have h2 : c ∈ u.take n := by
    rw [et]
    exact List.mem_append_left _ h
  exact List.mem_of_mem_take h2
theorem rtrim_le (a : List Nat) : (rtrim a).length ≤ a.length := by
  obtain ⟨t, et, ht⟩ := rtrim_pre a
  have e := congrArg List.length et
  rw [List.length_append] at e
  omega
end L2
/-! the plain law of the best break -/
namespace K
open PySem PySem.Spec PyProof.Rows L2
def okC (c : Nat) : Bool := (decide ((32 : Int) ≤ c) && decide ((c : Int) ≤ 126)) && !decide (c = 37)
def plainL (a : List Nat) : Bool := decide (1 ≤ a.length ∧ a.length ≤ 60) && (a.all okC && (!decide (a.head? = some 32) && (!decide (a.getLast? = some 32) && !dblL a)))
def plainD : PyData → Bool | .str s => plainL s.cps.toList | _ => false
theorem plain_jn {a : List Nat} (h : Jn a) (ok : a.all okC = true) (l : a.length ≤ 60) : plainL a = true := by
  obtain ⟨h1, h2, h3, h4⟩ := h
  have h5 : 0 < a.length := List.length_pos_iff.mpr h2
  unfold plainL
  rw [decide_eq_true (by omega), ok, decide_eq_false h3, decide_eq_false h4, h1]
  rfl
theorem jn_plain {a : List Nat} (h : plainL a = true) : Jn a ∧ a.all okC = true ∧ 1 ≤ a.length ∧ a.length ≤ 60 := by
  unfold plainL at h
  simp only [Bool.and_eq_true, decide_eq_true_eq, Bool.not_eq_true', decide_eq_false_iff_not] at h
  obtain ⟨⟨h1, h2⟩, h3, h4, h5, h6⟩ := h
  exact ⟨⟨h6, List.length_pos_iff.mp (by omega), h4, h5⟩, h3, h1, h2⟩
/-- a blank at k -/
def bl (a : List Nat) (k : Nat) : Bool := decide (a.getD k 0 = 32)
def blanks (a : List Nat) : List Nat := kept a.length (bl a)
/-- the longer part -/
def wide (n k : Nat) : Nat := max k (n - k - 1)
/-- how far apart -/
def apart (n k : Nat) : Nat := ((k : Int) - ((n - k - 1 : Nat) : Int)).natAbs
def stepL (n L k : Nat) : Nat := min L (wide n k)
def stepB (n W : Nat) (b : Option Nat) (k : Nat) : Option Nat :=
  if wide n k ≤ W then (match b with | none => some k | some j => if apart n k < apart n j then some k else some j) else b
def leastOf (n : Nat) (ks : List Nat) : Nat := ks.foldl (stepL n) n
def bestOf (n W : Nat) (ks : List Nat) : Option Nat := ks.foldl (stepB n W) none
theorem least_snoc (n : Nat) (ks : List Nat) (k : Nat) : leastOf n (ks ++ [k]) = stepL n (leastOf n ks) k := by
  unfold leastOf
  rw [List.foldl_append]
  rfl
theorem best_snoc (n W : Nat) (ks : List Nat) (k : Nat) : bestOf n W (ks ++ [k]) = stepB n W (bestOf n W ks) k := by
  unfold bestOf
  rw [List.foldl_append]
  rfl
theorem take_succ_snoc {α : Type} {l : List α} {i : Nat} {x : α} (h : l[i]? = some x) : l.take (i + 1) = l.take i ++ [x] := by
  rw [List.take_add_one, h]
  rfl
theorem blank_lt {a : List Nat} {k : Nat} (h : k ∈ blanks a) : k < a.length ∧ bl a k = true := by
  unfold blanks kept at h
  rw [List.mem_filter, List.mem_range] at h
  exact h
theorem foldMin_le (n : Nat) : ∀ (ks : List Nat) (L : Nat), ks.foldl (stepL n) L ≤ L ∧ (∀ k ∈ ks, ks.foldl (stepL n) L ≤ wide n k) ∧ (∀ m, m ≤ L → (∀ k ∈ ks, m ≤ wide n k) → m ≤ ks.foldl (stepL n) L)
  | [], L => ⟨Nat.le_refl _, fun k h => absurd h (by simp), fun m h _ => h⟩
  | k :: ks, L => by
    obtain ⟨h1, h2, h3⟩ := foldMin_le n ks (stepL n L k)
    have e : stepL n L k = min L (wide n k) := rfl
    refine ⟨Nat.le_trans h1 (by rw [e]; omega), fun j hj => ?_, fun m hm hk => ?_⟩
    · rcases List.mem_cons.mp hj with rfl | hj
      · exact Nat.le_trans h1 (by rw [e]; omega)
      · exact h2 j hj
    · refine h3 m ?_ fun j hj => hk j (List.mem_cons_of_mem _ hj)
      have := hk k (List.mem_cons_self ..)
      rw [e]
      omega
theorem best_none {n W : Nat} : ∀ {ks : List Nat}, (∀ k ∈ ks, W < wide n k) → bestOf n W ks = none
  | ks, h => by
    unfold bestOf
    induction ks with
    | nil => rfl
    | cons k r ih =>
      have e : stepB n W none k = none := by
        unfold stepB
        rw [if_neg (by have := h k (List.mem_cons_self ..); omega)]
      rw [List.foldl_cons, e]
      exact ih fun j hj => h j (List.mem_cons_of_mem _ hj)
theorem best_mem {n W : Nat} : ∀ {ks : List Nat} {k : Nat}, bestOf n W ks = some k → k ∈ ks := by
  intro ks
  have key : ∀ (ks : List Nat) (b : Option Nat) (k : Nat), ks.foldl (stepB n W) b = some k → k ∈ ks ∨ b = some k := by
    intro ks
    induction ks with
    | nil => exact fun b k h => .inr h
    | cons j r ih =>
      intro b k h
      rcases ih _ k h with h | h
      · exact .inl (List.mem_cons_of_mem _ h)
      · unfold stepB at h
        by_cases hw : wide n j ≤ W
        · rw [if_pos hw] at h
          cases b with
          | none =>
            have e : j = k := Option.some.inj h
            exact .inl (by rw [e]; exact List.mem_cons_self ..)
          | some i =>
            by_cases hq : apart n j < apart n i
            · simp only [if_pos hq] at h
              have e : j = k := Option.some.inj h
              exact .inl (by rw [e]; exact List.mem_cons_self ..)
            · simp only [if_neg hq] at h
              exact .inr h
        · rw [if_neg hw] at h
          exact .inr h
  intro k h
  rcases key ks none k h with h | h
  · exact h
  · cases h
/-- what a call comes to -/
inductive Rs where
  | badText | badWidth | wide (l : Nat) | lines (xs : List (List Nat))
def Least (a : List Nat) : Nat := leastOf a.length (blanks a)
def lay (a : List Nat) (W : Nat) : Rs :=
  if a.length ≤ W then .lines [a] else match bestOf a.length W (blanks a) with
    | none => .wide (Least a)
    | some k => .lines [a.take k, a.drop (k + 1)]
def isIn (d : PyData) (lo hi : Int) : Bool := match d with
  | .int i => decide (lo ≤ i) && decide (i ≤ hi)
  | _ => false
def two (d dw : PyData) : Rs := if plainD d = false then .badText else if isIn dw 1 60 = false then .badWidth else match d, dw with
  | .str s, .int W => lay s.cps.toList W.toNat
  | _, _ => .badText
def strD (a : List Nat) : PyData := .str (SX.S a)
def told (dw : PyData) : Rs → PyData
  | .badText => .tuple [.str "BadText", .int (-1), .bool false]
  | .badWidth => .tuple [.str "BadWidth", dw, .bool false]
  | .wide l => .tuple [.str "TooWide", .int l, .bool false]
  | .lines xs => .tuple [.str "lines", .tuple (xs.map strD)]
theorem least_le (a : List Nat) : Least a ≤ a.length := (foldMin_le a.length (blanks a) a.length).1
theorem least_pos {a : List Nat} (h : plainL a = true) : 1 ≤ Least a := by
  obtain ⟨⟨h1, h2, h3, h4⟩, _, h5, _⟩ := jn_plain h
  refine (foldMin_le a.length (blanks a) a.length).2.2 1 h5 fun k hk => ?_
  obtain ⟨hlt, hb⟩ := blank_lt hk
  cases k with
  | zero =>
    cases a with
    | nil => exact absurd rfl h2
    | cons c r =>
      have e : c = 32 := of_decide_eq_true hb
      exact absurd (by rw [e]; rfl) h3
  | succ k =>
    unfold wide
    omega
theorem lay_under {a : List Nat} {W : Nat} (h : W < Least a) : lay a W = .wide (Least a) := by
  unfold lay
  have := least_le a
  rw [if_neg (by omega), best_none fun k hk => ?_]
  exact Nat.lt_of_lt_of_le h ((foldMin_le a.length (blanks a) a.length).2.1 k hk)
theorem two_lay {a : List Nat} {W : Nat} (h : plainL a = true) (h1 : 1 ≤ W) (h2 : W ≤ 60) : two (strD a) (.int W) = lay a W := by
  have e1 : plainD (strD a) = true := h
  have e2 : isIn (.int (W : Int)) 1 60 = true := by
    show (decide _ && decide _) = true
    rw [decide_eq_true (by omega), decide_eq_true (by omega)]
    rfl
  unfold two
  rw [e1, e2]
  show lay (SX.S a).cps.toList (W : Int).toNat = _
  rw [Int.toNat_natCast]
end K
/-! An own error class over ValueError (any number of own classes between) whose __init__ says super().__init__('..'), then stores one field. -/
namespace PySem
namespace ErrX
open PySem.W PySem.Calls PyProof.Rows PySem.HandSPX
def eA (f : Str) (p1 p2 : Pos) : Arguments := { posonlyargs := [], args := [{ arg := "self", annotation := none, pos := p1 }, { arg := f, annotation := none, pos := p2 }], vararg := none, kwonlyargs := [], kw_defaults := [], kwarg := none, defaults := [] }
def eB (msg f : Str) (q1 q2 q3 q4 q5 q6 q7 q8 q9 q10 : Pos) : List Stmt :=
  [.Expr (.Call (.Attribute (.Call (.Name "super" q1) [] [] q2) "__init__" q3) [.Constant (.str msg) 0 q4] [] q5) q6, .Assign [.Attribute (.Name "self" q7) f q8] (.Name f q9) q10]
def eS (f : Str) : Scope := { kind := .function, names := [(PySem.Str.ofString "self", .local), (f, .local), (PySem.Str.ofString "__class__", .free), (PySem.Str.ofString "super", .globalImplicit)], isGenerator := false, isCoroutine := false, more := [] }
/-- how its arguments bind: (fun _ _ _ _ _ _ _ _ _ _ _ _ _ _ => rfl) for a written f -/
def EBind (f : Str) : Prop := ∀ (qual : Str) (p1 p2 : Pos) (body : List Stmt) (sc : Scope) (kV doc pm : Value) (an : Option Addr) (cd ct : Value) (cc : Addr) (a v : Value),
  bindArgs (ksFn "__init__" qual (eA f p1 p2) body sc .none kV doc pm an cd ct cc) ⟨[a, v], []⟩ = pure [(("self" : Str), a), (f, v)]
/-- what the written part says of such a class, at C, and of its __init__, at fI -/
structure ErrTxt (prog : Program) (K : Frag) (mg : Str → Option Value) (x qual msg f : Str) (C fI : Addr) : Prop where
  gC : mg x = some (.ref C)
  mS : mg "super" = none
  bnd : EBind f
  nsf : (("self" : Str) == f) = false
  nSu : (("super" : Str) == f) = false
  nCl : (("__class__" : Str) == f) = false
  nDb : (f == ("__debug__" : Str)) = false
  nfs : (f == ("self" : Str)) = false
  cls : ∃ nm q N bs bm sn sub ab col dd k0 k1 k2 k3 k5, K.lookup C = some (excClassObj nm q C N bs bm true sn sub ab col dd k0 k1 k2 k3 k5 "ValueError.__new__") ∧ refsVE bm = true
  sup : ks_superIn K C C "__init__" = some (some (.builtin "ValueError.__init__"))
  sa : findIn K (.ref C) "__setattr__" = some (some (.builtin "object.__setattr__"))
  ga : findIn K (.ref C) "__getattribute__" = some (some (.builtin "BaseException.__getattribute__"))
  gg : findIn K (.ref C) "__getattr__" = some none
  noN : findIn K (.ref C) f = some none
  iC : findIn K (.ref C) "__init__" = some (some (.ref fI))
  tC : typeIn K (.ref fI) = some (.type "function")
  kC : keepIn K (.ref C) = true
  exC : subIn K (.ref C) (.type "BaseException") = some true
  veC : subIn K (.ref C) (.type "ValueError") = some true
  meC : mroIn K C (.ref C) = some true
  tyC : typeIn K (.ref C) = some (.type "type")
  hdC : hasDictIn K C = true
  op : nsIn K cStatics "thirdparty.any" = some none
  top : (prog.main.scope.names.lookup ("super" : Str)).isSome = false
  fn : ∃ (oc : Value) (od : Option Addr) (kV doc pm : Value) (an : Option Addr) (ct : Value) (osl : Array (Option Value)) (cda cc : Addr) (p1 p2 q1 q2 q3 q4 q5 q6 q7 q8 q9 q10 : Pos),
    K.lookup fI = some ⟨oc, od, .func (ksFn "__init__" qual (eA f p1 p2) (eB msg f q1 q2 q3 q4 q5 q6 q7 q8 q9 q10) (eS f) .none kV doc pm an (.ref cda) ct cc), osl⟩ ∧ codeIn K (.ref cda) qual = true ∧ (q3.endLine == q5.line) = true ∧
    (∃ ccl cdd vs ccs file tf, K.lookup cda = some ⟨ccl, cdd, .fields vs, ccs⟩ ∧ vs[2]? = some (.str file tf) ∧ ((prog.main.file : Str) == file) = true) ∧
    (∃ cl cld csl, K.lookup cc = some ⟨cl, cld, .cell (some (.ref C)), csl⟩)
theorem one_size (v : Value) : [v].length ≤ sizeLine := by
  rw [sizeLine_eq]
  exact (by decide : 1 ≤ 16777216)
theorem kept_but {K : Frag} {h h' : Heap} {x : Addr} (X : K.In h) (hx : K.lookup x = none) (k : ∀ b o, b ≠ x → h.get? b = some o → h'.get? b = some o) : K.In h' := fun a o e =>
  k a o (fun z => by rw [z, hx] at e; cases e) (X a o e)
/-- what __init__ leaves of a fresh exception at x -/
structure InitEnd (h h' : Heap) (x C dx : Addr) (f : Str) (v : Value) : Prop where
  keep : ∀ b o, b ≠ x → h.get? b = some o → h'.get? b = some o
  obj : ∃ t1 : Addr, h'.get? x = some { cls := .ref C, dict := some dx, data := .fields #[.ref t1, .none, .none, .none, .bool false, .none] }
  dbig : h.objs.size ≤ dx
  dne : dx ≠ x
  ns : h'.Ns1 dx (fun y => if y = f then some v else none)
/-- a made one -/
structure OwnMade (h h' : Heap) (e C d : Addr) (f : Str) (v : Value) : Prop where
  keep : ∀ b o, h.get? b = some o → h'.get? b = some o
  new : h.objs.size ≤ e
  obj : ∃ oe vs, h'.get? e = some oe ∧ oe.cls = .ref C ∧ oe.dict = some d ∧ oe.data = .fields vs ∧ vs[1]? = some .none
  dbig : h.objs.size ≤ d
  dne : d ≠ e
  ns : h'.Ns1 d (fun y => if y = f then some v else none)
section
variable {prog : Program} {w : World} {A : Around} {E : Value → Shared → Prop} {h : Heap} {g : Array GenState} {d : Drawn} {t : Nat} {os : OsState}
variable {nm q : Str} {C N : Addr} {bs bm : List Value} {hdct : Bool} {sn : List Str} {sub : List Value} {ab : Bool} {col : Option Bool} {dd : Option Addr} {k0 k1 k2 k3 k5 : Option Value}
theorem call_bwV {u e t0 : Addr} {rest : List Value} {Q : Value → Shared → Prop}
    (hC : h.get? C = some (excClassObj nm q C N bs bm hdct sn sub ab col dd k0 k1 k2 k3 k5 "ValueError.__new__")) (he : h.get? e = some (HandSPX.excO C t0)) (hu : h.get? u = some (kxs_mw "ValueError.__init__" e)) (hrest : rest.length ≤ sizeLine)
    (hq : ∀ h' t1, (∀ b o, b ≠ e → h.get? b = some o → h'.get? b = some o) → h'.get? e = some (HandSPX.excO C t1) → Q .none ⟨h', g, d, t, os⟩) :
    wpAny (model prog w) A (call (.ref u) rest) Q E ⟨h, g, d, t, os⟩ := by
  refine wpAny_call (codeAny_of_tree ?_)
  show wpAny _ A.in1 (callAny (.ref u) ⟨rest, []⟩) _ _ _
  simp only [callAny]
  refine wpAny_bind (wpAny_load hu ?_)
  simp only [kxs_mw, show (Value.type "method-wrapper" == Value.type "method" || Value.type "method-wrapper" == Value.type "builtin_function_or_method" || Value.type "method-wrapper" == Value.type "method-wrapper") = true by decide, if_true]
  refine W.KFB.if_so (by decide) ?_
  refine wpAny_bind (ESX.check_bound F.excBase_ValueError hC he rfl ?_)
  refine wpAny_bind (wpAny_pure (wpAny_pure ?_))
  refine ⟨Code.quiet_builtin _ (by decide +kernel), codeAny_builtin F.excBase_ValueError.initEntry ?_⟩
  rw [Around.under_plainId F.excBase_ValueError.init.plain _]
  wp_walk
  refine hq _ h.objs.size (fun b o hb ho => ?_) ?_
  · rw [Heap.get?_update_other _ _ (Ne.symm hb)]
    exact Heap.get?_push_of_some _ ho
  · rw [Heap.get?_update_self _ (Heap.get?_push_of_some _ he) rfl]
    rfl
end
section
variable {prog : Program} {w : World} {A : Around} {E : Value → Shared → Prop} {R : Result → Shared → Prop} {s : Shared} {K : Frag} {mg : Str → Option Value} {x qual msg f : Str} {C fI : Addr}
/-- what is known of the module around: its names, the built-in ones -/
structure Glo (mg : Str → Option Value) (h : Heap) : Prop where
  g : h.Ns mainGlobals mg
  b : ∃ mb, h.Ns builtinsNs mb ∧ mb "super" = some (.type "super")
theorem Glo.keeps {mg : Str → Option Value} {h h' : Heap} (G : Glo mg h) (k : ∀ b o, h.get? b = some o → h'.get? b = some o) : Glo mg h' := by
  obtain ⟨mb, h1, h2⟩ := G.b
  exact ⟨G.g.keeps k, mb, h1.keeps k, h2⟩
theorem meth_eq {o : Expr} {name : Str} {apos pos : Pos} {c : Const} {j : Nat} {p4 : Pos} {env : Env} (hp : (apos.endLine == pos.line) = true) : eval (.Call (.Attribute o name apos) [.Constant c j p4] [] pos) env = (do
      let ov ← attributeBase o name env (eval o env)
      standAt apos.atName
      let (f, first) ← holding [ov] (getMethod ov name (do return (← importBound o env).getD true))
      callWith pos f first (backTo pos (starEach [.Constant c j p4] env)) []) := by
  rw [arm_eval_Call]
  unfold methodCall methodCallPos
  rw [hp, Bool.or_true, if_pos rfl]
  rfl
theorem err_init (T : ErrTxt prog K mg x qual msg f C fI) {a t0 : Addr} {v : Value} (X : K.In s.heap) (G : Glo mg s.heap) (hlim : s.heap.NoLimit) (ha : s.heap.get? a = some (excO C t0)) (hna : K.lookup a = none) (hroom : A.depth < recursionLimit)
    (hq : ∀ h' tk dx, InitEnd s.heap h' a C dx f v → R (.ok (.ret .none)) { s with heap := h', toks := tk }) :
    codeAny (model prog w) A (.call (.ref fI) ⟨[.ref a, v], []⟩) R s := by
  obtain ⟨oc, od, kV, doc, pm, an, ct, osl, cda, cc, p1, p2, q1, q2, q3, q4, q5, q6, q7, q8, q9, q10, ho, hcd, hpos, ⟨ccl, cdd, vs, ccs, file, tf, hcode, hvs, hfile⟩, cl, cld, csl, hcell⟩ := T.fn
  obtain ⟨nm, q, N, bs, bm, sn, sub, ab, col, dd, k0, k1, k2, k3, k5, hC, hbm⟩ := T.cls
  have hcl : clsIn K C = some { name := nm, bases := bs, mro := .ref C :: bm, ns := N, qualname := q, hasDict := true, slotNames := sn, subclasses := sub, abstract := ab, collection := col, hasDel := false } := by unfold clsIn; rw [hC] <;> rfl
  have nf := T.nfs
  have nf2 := T.nsf
  obtain ⟨hp, g, d, t, os⟩ := s
  refine ks_codeAny_call_defAt (fd := ksFn "__init__" qual (eA f p1 p2) (eB msg f q1 q2 q3 q4 q5 q6 q7 q8 q9 q10) (eS f) .none kV doc pm an (.ref cda) ct cc) (binds := [("self", .ref a), (f, v)])
    hroom (X _ _ ho) rfl hlim (codeRec_of X hcd) rfl (BindsTo.of_eq ?bind) ?cells ?locs (fun h₀ hns kk => ?_) rfl rfl rfl
  case bind => exact T.bnd _ _ _ _ _ _ _ _ _ _ _ _ _ _
  case cells =>
    intro y hy
    simp only [eS, List.mem_cons, List.not_mem_nil, or_false] at hy
    rcases hy with rfl | rfl | rfl | rfl <;> simp
  case locs =>
    intro y hy
    simp only [List.mem_cons, List.not_mem_nil, or_false] at hy
    rcases hy with rfl | rfl
    · rfl
    · show (eS f).names.lookup f = some .local
      simp [eS, List.lookup, nf]
  have X₁ : K.In h₀ := X.keeps kk
  have ha₁ : h₀.get? a = some (excO C t0) := kk _ _ ha
  have haL : hp.objs.size ≠ a := Nat.ne_of_gt (Heap.lt_size ha)
  have I₁ : InstAt h₀ a (excO C t0) C none := ⟨ha₁, rfl, rfl, trivial⟩
  have G₁ := G.keeps kk
  have hself : (fun y => (List.reverse [(("self" : Str), Value.ref a), (f, v)]).lookup y) "self" = some (.ref a) := by
    show List.lookup ("self" : Str) [(f, v), (("self" : Str), Value.ref a)] = _
    simp [List.lookup, nf2]
  have hfv : (fun y => (List.reverse [(("self" : Str), Value.ref a), (f, v)]).lookup y) f = some v := by
    show List.lookup f [(f, v), (("self" : Str), Value.ref a)] = _
    simp [List.lookup]
  obtain ⟨oC, hC1, hC2⟩ : ∃ oC, h₀.get? C = some oC ∧ ∃ cd, oC.data = .cls cd := ⟨_, X₁ _ _ hC, _, rfl⟩
  refine ks_wpAt_execs_cons (ks_wpAt_Expr_any (ks_wpAt_MethodCall (ks_wpAt_super_base (env := ksEnv qual (eS f) hp.objs.size fI (.ref cda) cc) ?s1 ?s2 rfl rfl (X₁ _ _ ho) rfl (ar := { arg := "self", annotation := none, pos := p1 }) rfl rfl (X₁ _ _ hcode) rfl hvs hfile T.top ?_) (meth_eq hpos)))
  case s1 =>
    show (eS f).names.lookup ("super" : Str) = some .globalImplicit
    simp only [eS, List.lookup, T.nSu]
    rfl
  case s2 =>
    show (eS f).names.lookup ("__class__" : Str) = some .free
    simp only [eS, List.lookup, T.nCl]
    rfl
  obtain ⟨mb, hmb, hsb⟩ := G₁.b
  obtain ⟨cd, hC3⟩ := hC2
  have kSu : (ksEnv qual (eS f) hp.objs.size fI (.ref cda) cc).kindOf ("super" : Str) = some .globalImplicit := by
    show (eS f).names.lookup ("super" : Str) = some .globalImplicit
    simp only [eS, List.lookup, T.nSu]
    rfl
  have kCl : (ksEnv qual (eS f) hp.objs.size fI (.ref cda) cc).kindOf ("__class__" : Str) = some .free := by
    show (eS f).names.lookup ("__class__" : Str) = some .free
    simp only [eS, List.lookup, T.nCl]
    rfl
  have kSe : (ksEnv qual (eS f) hp.objs.size fI (.ref cda) cc).kindOf ("self" : Str) = some .local := rfl
  have kF : (ksEnv qual (eS f) hp.objs.size fI (.ref cda) cc).kindOf f = some .local := by
    show (eS f).names.lookup f = some .local
    simp [eS, List.lookup, nf]
  refine ks_loadName_global rfl kSu (loadGlobal_builtin (env := ksEnv qual (eS f) hp.objs.size fI (.ref cda) cc) G₁.g T.mS hmb hsb ⟨rfl, ?_⟩)
  refine wpAny_loadName_free (env := ksEnv qual (eS f) hp.objs.size fI (.ref cda) cc) rfl kCl rfl ⟨_, X₁ _ _ hcell, rfl⟩ ?_
  refine wpAny_loadName_local (env := ksEnv qual (eS f) hp.objs.size fI (.ref cda) cc) rfl kSe hns hself ?_
  refine ks_wpAny_isType_cls hC1 hC3 ⟨rfl, ?_⟩
  refine ks_wpAny_call_super hC1 hC3 ha₁ rfl (fun c e => nomatch e) (looks_mroIn X₁ T.meC) (fun h2 e2 k2 => ?_)
  have X₂ : K.In h2 := X₁.keeps k2
  have I₂ : InstAt h2 a (excO C t0) C none := ⟨k2 _ _ ha₁, rfl, rfl, trivial⟩
  have hal : alongIn K "__init__" (((Value.ref C :: bm).dropWhile (· != .ref C)).drop 1) = some (some (.builtin "ValueError.__init__")) := by
    have z := T.sup
    unfold ks_superIn at z
    rw [hcl] at z
    exact z
  refine kxs_getMethod kxs_ValueError e2 (looks_opaque X₂ T.op) (l₀ := .ref C :: bm) (fun A Q E s k q => wpAny_bind ((looks_clsIn X₂ hcl) A _ E s k (wpAny_pure q))) rfl X₂ hal (I₂.type.andThen (looks_subIn X₂ T.veC)) (ks_ne X₂ I₂ hcl) rfl ?_
  -- the call of the bound __init__
  refine kxs_callWith (i := "ValueError.__init__") (x := a) rfl (evalArgs_plain ?_)
  refine Calls.spliced_cons (Calls.Constant_str (x := msg) (pos := q4) (k := 0) (Calls.spliced_nil ⟨Heap.get?_push_at rfl rfl, ?_⟩))
  refine call_bwV (t0 := t0) (Heap.get?_push_of_some _ (X₂ _ _ hC)) (Heap.get?_push_of_some _ (k2 _ _ ha₁)) (Heap.get?_push_at rfl rfl) (one_size _) (fun h3 t1 k3 ha3 => ?_)
  have k03 : ∀ b o, b ≠ a → hp.get? b = some o → h3.get? b = some o := fun b o hb z => k3 b o hb (Heap.get?_push_of_some _ (k2 _ _ (kk _ _ z)))
  have X₃ : K.In h3 := kept_but (X₂.keeps fun b o z => Heap.get?_push_of_some _ z) hna k3
  have n3 : h3.Ns hp.objs.size (fun y => (List.reverse [(("self" : Str), Value.ref a), (f, v)]).lookup y) := by
    refine hns.at fun o z => ?_
    exact k3 _ _ haL (Heap.get?_push_of_some _ (k2 _ _ z))
  -- self.f = f
  refine wpAt_of_wpAny ?_
  refine wpAny_execs_cons (plainObj_wpAny_Assign_Attribute ?_)
  refine ESX.ldL (v := v) n3 hfv (ESX.ldL (v := .ref a) n3 hself ?_ rfl kSe) rfl kF ?dbg
  case dbg => exact T.nDb
  refine set_plain X₃ (ox := excO C t1) (od := none) ⟨ha3, rfl, rfl, trivial⟩ T.sa ?_
  refine exc_osa X₃ ha3 hcl (show refsVE (.ref C :: bm) = true from hbm) rfl T.noN (fun h₄ tk₄ dx k₄ dn dne hx₄ hn₄ => ?_)
  refine wpAny_execs_nil (hq h₄ tk₄ dx ⟨fun b o hb e => k₄ b o hb (k03 b o hb e), ⟨t1, hx₄⟩, ?_, dne, hn₄⟩)
  exact Nat.le_trans (Nat.le_of_lt n3.lt) dn
theorem err_made (T : ErrTxt prog K mg x qual msg f C fI) {v : Value} (X : K.In s.heap) (G : Glo mg s.heap) (hlim : s.heap.NoLimit) (hroom : A.depth + 1 < recursionLimit)
    (hq : ∀ h' tk e d, OwnMade s.heap h' e C d f v → R (.ok (.ret (.ref e))) { s with heap := h', toks := tk }) :
    codeAny (model prog w) A (.call (.ref C) ⟨[v], []⟩) R s := by
  obtain ⟨nm, q, N, bs, bm, sn, sub, ab, col, dd, k0, k1, k2, k3, k5, hC, hbm⟩ := T.cls
  obtain ⟨hp, g, dr, tk, os⟩ := s
  have k : ∀ b o, hp.get? b = some o → ((hp.push (kdv_tup [v])).push (excO C hp.objs.size)).get? b = some o := fun b o e => Heap.get?_push_of_some _ (Heap.get?_push_of_some _ e)
  have hget : ((hp.push (kdv_tup [v])).push (excO C hp.objs.size)).get? (hp.objs.size + 1) = some (excO C hp.objs.size) := by heap_get
  have hnx : K.lookup (hp.objs.size + 1) = none := by
    cases e : K.lookup (hp.objs.size + 1) with
    | none => rfl
    | some o =>
      have z : hp.get? (hp.objs.size + 1) = some o := X _ _ e
      exact absurd (Nat.lt_of_succ_lt (Heap.lt_size z)) (Nat.lt_irrefl _)
  refine call_own F.excBase_ValueError (fun X => refsVE_contains X bm hbm) (X _ _ hC) (looks_findIn X T.iC) (fun self => bind_fn X self T.tC) (one_size v) ?_
  refine err_init (s := ⟨(hp.push (kdv_tup [v])).push (excO C hp.objs.size), g, dr, tk, os⟩) T (X.keeps k) (G.keeps k) (hlim.keeps k) hget hnx ?_ fun h' tk' dx ⟨k', ⟨t1, hx⟩, dn, dne, hns⟩ => ?_
  · show A.depth + 1 < recursionLimit
    exact hroom
  · have old : ∀ b o, hp.get? b = some o → h'.get? b = some o := fun b o e => k' b o (Nat.ne_of_lt (Nat.lt_succ_of_lt (Heap.lt_size e))) (k b o e)
    have z : hp.objs.size + 1 + 1 ≤ dx := by
      first
        | (simpa only [Heap.size_push] using dn)
        | exact dn
        | (have q := dn; rw [Heap.size_push, Heap.size_push] at q; exact q)
    exact ⟨rfl, hq h' tk' (hp.objs.size + 1) dx ⟨old, Nat.le_succ _, ⟨_, _, hx, rfl, rfl, rfl, rfl⟩, Nat.le_trans (Nat.le_trans (Nat.le_succ _) (Nat.le_succ _)) z, dne, hns⟩⟩
end
end ErrX
end PySem
namespace L2
open PySem PySem.Spec PyProof.Rows
theorem relO_one {g : Str} {v : V} {v' : Value} (r : RelV v v') (f : Str) : RelO (List.lookup f [(g, v)]) (if f = g then some v' else none) := by
  by_cases hw : f = g
  · subst hw
    rw [if_pos rfl]
    have q : List.lookup f [(f, v)] = some v := by simp [List.lookup]
    rw [q]
    exact r
  · rw [if_neg hw]
    have qw : (f == g) = false := by simpa using hw
    have q2 : List.lookup f [(g, v)] = none := by simp [List.lookup, qw]
    rw [q2]
    trivial
section
variable {X : Cx} {C fI : Addr} {f : Str}
/-- E(e), an error with one field -/
def tMkErr (C : Addr) (f : Str) (ta : TA) : St → Hp → XK → Prop := fun σ H Q => ta σ H fun vs H1 => ∃ v, vs = [v] ∧ ∀ d, H1 d = none → Q (.ref C) (some d) (upd H1 d (.xd [(f, v)]))
theorem pmk_err {x qual msg : Str} {a : Expr} {ta : TA} {p pos : Pos} {k : Nat} (T : PySem.ErrX.ErrTxt X.prog X.K X.mg x qual msg f C fI) (hr : Room k X.A) (ha : PA X [a] ta) (hg : Gl X x := by rfl) (hd : (x == ("__debug__" : Str)) = false := by decide)
    (he : starEach (a :: []) X.env = (false, eval a X.env) :: starEach [] X.env := by rfl) (hpl : (backTo pos (starEach [] X.env)).any (·.1) = false := by rfl) :
    PMk X (.Call (.Name x p) [a] [] pos) (tMkErr C f ta) := by
  intro pins s σ H Q I h
  refine wpAny_Call_Name_kw (ld_glob I hg T.gC ?_ hd)
  refine PySem.W.callWith_K (h₀ := X.base) I.ok.mod.kin T.kC (thn (ha.run pos pins s σ H _ I h) fun us s1 hh => ?_) he hpl
  obtain ⟨vs, H1, I1, r1, v, ev, q1⟩ := hh
  subst ev
  refine ⟨I1.kIn, ?_⟩
  cases r1 with
  | cons rv rn =>
    rename_i v' us'
    cases rn
    show wpAny _ _ (call (.ref C) [v']) _ _ _
    have hlim := I1.nolimit
    have G : PySem.ErrX.Glo X.mg s1.heap := by
      obtain ⟨mb, h1, h2⟩ := I1.mod.blt
      exact ⟨I1.mod.glob.keeps I1.bk, mb, h1.keeps I1.bk, h2 "super" (by decide)⟩
    obtain ⟨hp, g, dr, tk, os⟩ := s1
    refine wpAny_call (PySem.ErrX.err_made T I1.kIn G hlim (by have := hr.dp; omega) fun h' tk' e d M => ?_)
    show MkP X pins σ Q (.ref e) ⟨h', g, dr, tk', os⟩
    obtain ⟨oe, fv, hoe, hc, hd, hdat, h1⟩ := M.obj
    have hns := M.ns
    obtain ⟨G', g1, g2⟩ := restrict h' fun b => decide (b ≠ e)
    have gk : ∀ b, b ≠ e → G'.get? b = h'.get? b := fun b hb => g1 b (decide_eq_true hb)
    have ge : G'.get? e = none := g2 e (by simp)
    have old : ∀ b o, hp.get? b = some o → G'.get? b = some o := fun b o q => (gk b (Nat.ne_of_lt (Nat.lt_of_lt_of_le (Heap.lt_size q) M.new))).trans (M.keep b o q)
    have ob : ObjOk X.prog X.w (upd H1 d (.xd [(f, v)])) G' d (.xd [(f, v)]) :=
      ⟨_, hns.at (fun o q => (gk d M.dne).trans q), fun f => relO_one rv f⟩
    have J : Inv X pins σ (upd H1 d (.xd [(f, v)])) ⟨G', g, dr, tk', os⟩ := I1.laid (t' := tk') old M.dbig ob
    refine ⟨e, oe, fv, ⟨G', g, dr, tk', os⟩, _, .ref C, some d, rfl, J, fun b o q => ?_, ge, hoe, ⟨hc, hd⟩, hdat, h1, ?_, rfl, I1.bare, raises_own T.exC T.tyC, q1 d (I1.hok.fresh M.dbig)⟩
    · by_cases hb : b = e
      · have q' : G'.get? b = some o := q
        rw [hb, ge] at q'; cases q'
      · exact (gk b hb).symm.trans q
    · rw [upd_ne (Ne.symm M.dne)]
      exact I1.hok.fresh M.new
/-- raise E(e) -/
def tRaiseErr (C : Addr) (f : Str) (W : WX) (ta : TA) : TS := fun _ σ H => tMkErr C f ta σ H fun cls d H' => W cls d σ H'
theorem ps_raiseErr {x qual msg : Str} {a : Expr} {ta : TA} {W : WX} {p pos pos2 : Pos} {k : Nat} (T : PySem.ErrX.ErrTxt X.prog X.K X.mg x qual msg f C fI) (hr : Room k X.A) (tk : Takes X W) (ha : PA X [a] ta) (hg : Gl X x := by rfl) (hc : X.calm = true := by rfl) (hd : (x == ("__debug__" : Str)) = false := by decide)
    (he : starEach (a :: []) X.env = (false, eval a X.env) :: starEach [] X.env := by rfl) (hpl : (backTo pos (starEach [] X.env)).any (·.1) = false := by rfl) :
    PS X (.Raise (some (.Call (.Name x p) [a] [] pos)) none pos2) (tRaiseErr C f W ta) := ps_raise hc tk (pmk_err T hr ha hg hd he hpl)
end
theorem rd_raiseErr {C : Addr} {f : Str} {W : WX} {ta : TA} {D : Ends} {σ : St} {H : Hp} (h : ta σ H fun vs H1 => ∃ v, vs = [v] ∧ ∀ d, H1 d = none → W (.ref C) (some d) σ (upd H1 d (.xd [(f, v)]))) : tRaiseErr C f W ta D σ H := h
end L2
/-! several except clauses, with and without a name; isinstance of the error that a suite holds -/
namespace L2
open PySem PySem.Spec PyProof.Rows
/-- the slot i is emptied behind a suite -/
def gone (i : Nat) (D : Ends) : Ends := { nx := fun σ' H' => D.nx (σ'.set i none) H', rt := D.rt, bk := fun σ' H' => D.bk (σ'.set i none) H', ct := fun σ' H' => D.ct (σ'.set i none) H' }
abbrev Clause := Value × Option Nat × (Addr → Value → Option Addr → TS)
/-- the suite of a clause, at the error a -/
def sClause (q : Clause) (a : Addr) (cls : Value) (d : Option Addr) : TS := fun D σ H => match q.2.1 with
  | none => q.2.2 a cls d D σ H
  | some i => q.2.2 a cls d (gone i D) (σ.set i (some (.ref a))) H
/-- what the clauses wish of an exception of the body, one after the other -/
def wClauses (K : PySem.W.Frag) (Wout : WX) (D : Ends) : List Clause → WX
  | [] => Wout
  | q :: r => fun cls d σ H => ∃ b, PySem.W.exmOne K cls q.1 = some b ∧ (b = true → ∀ a, H a = none → sClause q a cls d D σ H) ∧ (b = false → wClauses K Wout D r cls d σ H)
inductive HdsA (X : Cx) : List ExceptHandler → List Clause → Prop
  | nil : HdsA X [] []
  | cons {x : Str} {c : Value} {ts : Addr → Value → Option Addr → TS} {b₀ : Stmt} {suite : List Stmt} {np pos' : Pos} {hds : List ExceptHandler} {l : List Clause} (hc : Names X x c)
      (hsu : ∀ (a : Addr) (oe : Obj) (cls : Value) (d : Option Addr) (pn : List (Addr × Obj)), Zc cls d oe → (∃ vs, oe.data = .fields vs) → PSs (X.suite a ((a, oe) :: pn)) (b₀ :: suite) (ts a cls d)) (r : HdsA X hds l) :
      HdsA X (.ExceptHandler (some (.Name x np)) none (b₀ :: suite) pos' :: hds) ((c, none, ts) :: l)
  | consA {x n : Str} {i : Nat} {c : Value} {ts : Addr → Value → Option Addr → TS} {b₀ : Stmt} {suite : List Stmt} {np pos' : Pos} {hds : List ExceptHandler} {l : List Clause} (hc : Names X x c)
      (hi : X.N[i]? = some n) (hln : X.env.kindOf n = some .local)
      (hsu : ∀ (a : Addr) (oe : Obj) (cls : Value) (d : Option Addr) (pn : List (Addr × Obj)), Zc cls d oe → (∃ vs, oe.data = .fields vs) → PSs (X.suite a ((a, oe) :: pn)) (b₀ :: suite) (ts a cls d)) (r : HdsA X hds l) :
      HdsA X (.ExceptHandler (some (.Name x np)) (some n) (b₀ :: suite) pos' :: hds) ((c, some i, ts) :: l)
section
variable {X : Cx} {body : List Stmt} {h₀ : ExceptHandler} {hds : List ExceptHandler} {l : List Clause} {pos : Pos} {tb : WX → TS} {Wout : WX}
theorem ps_try_clauses (hN : X.N.Nodup) (hs : X.stack = X.env :: X.outer) (hf : X.env.frame = some X.env.locals) (tk : Takes X Wout)
    (hb : ∀ (W : WX) (pn : List (Addr × Obj)) (xe : Value → Shared → Prop), Takes (X.tr pn xe) W → PassesOwn (model X.prog X.w) X.A X.env xe → PSs (X.tr pn xe) body (tb W))
    (hh : HdsA X (h₀ :: hds) l) : PS X (.Try body (h₀ :: hds) [] [] pos) (fun D σ H => tb (wClauses X.K Wout D l) D σ H) := by
  refine ⟨fun pins s σ H D I h => ?_⟩
  have ok := I.ok
  have hfr : X.A.frames = some (X.env :: X.outer) := by rw [ok.frames, hs]
  refine wpAny_Try_except ?_
  refine wpAny_mono ((hb (wClauses X.K Wout D l) (X.pn ++ pins) (fun e s₁ => wpAny (model X.prog X.w) X.A (noteFrame e X.env) (fun _ s₂ => wpAny (model X.prog X.w) X.A (setFlight e none) (fun _ s₃ =>
    wpAny (model X.prog X.w) X.A (handleBy e X.env (h₀ :: hds)) (SP X pins D) X.xe s₃) X.xe s₂) X.xe s₁) (fun u s' xx => ?_) PassesOwn.looking).run [] s σ H D (I.toTry _) h) (fun f s1 hsp => ?_) (fun e s1 he => he)
  · -- the catch
    obtain ⟨a, B, sI, pins', σ', H', cls, d, rfl, J', nb, up, sky, na, os, ag, w⟩ := xx
    have J : Inv X pins σ' H' sI := J'.ofTry ok
    have sky' : Sky B (X.env :: X.outer) a (Zc cls d) X.env.locals s'.heap := by rw [← hs]; exact sky
    show wpAny (model X.prog X.w) X.A (noteFrame (.ref a) X.env) _ _ _
    refine Sky.land Zc.steady hfr hf sky' fun h3 fl3 up3 => ?_
    have J3 : Inv X pins σ' H' { s' with heap := h3 } := J.landed nb fl3.1 (up.trans up3) os ag
    obtain ⟨oe3, vs3, he3, hz3, hd3⟩ := fl3.there
    have notFr : ∀ {h : Heap} {o : Obj} {vs : Array Value}, h.FunFrames B (X.env :: X.outer) → h.get? a = some o → o.data = .fields vs → a ∉ frs (X.env :: X.outer) := fun {h o vs} ff e dd hm => by
      obtain ⟨_, o', e', hnf⟩ := ff.mem hm
      rw [e] at e'; cases e'
      exact hnf _ dd
    have nfr := notFr fl3.2.2.1 he3 hd3
    have nL : a ≠ X.env.locals := fun z => nfr (List.mem_filterMap.mpr ⟨X.env, List.mem_cons_self, by rw [hf, z]⟩)
    have nF : a ∉ X.fs := fun hm => by
      obtain ⟨e, he, q⟩ := List.mem_filterMap.mp hm
      exact nfr (List.mem_filterMap.mpr ⟨e, List.mem_cons_of_mem _ he, q⟩)
    have S3 := J3.suite he3 hd3 na nL nF
    have test : ∀ {x : Str} {c : Value} {np : Pos} {Q : Value → Shared → Prop} {E : Value → Shared → Prop}, Names X x c → Q c { s' with heap := h3 } → wpAny (model X.prog X.w) (X.A.mark (some (.ref a))) (eval (.Name x np) X.env) Q E { s' with heap := h3 } := fun {x c np Q E} hc q => by
      obtain ⟨hg, hdbg, hm | ⟨hm, hv, hnn⟩⟩ := hc
      · exact ld_glob (X := X.suite a ((a, oe3) :: (X.pn ++ pins))) S3 hg hm q hdbg
      · exact ld_blt (X := X.suite a ((a, oe3) :: (X.pn ++ pins))) S3 hg hm hv q hnn hdbg
    have LT : PySem.W.Looks (model X.prog X.w) h3 (typeOf (.ref a)) cls := fun A Q E s k q => wpAny_typeOf_ref (k _ _ he3) (by rw [hz3.1]; exact q)
    have go : ∀ {hds' : List ExceptHandler} {l' : List Clause}, HdsA X hds' l' → wClauses X.K Wout D l' cls d σ' H' →
        wpAny (model X.prog X.w) X.A (handleBy (.ref a) X.env hds') (SP X pins D) X.xe { s' with heap := h3 } := by
      intro hds' l' hk
      induction hk with
      | nil =>
        intro w
        refine wpAny_handleBy_nil ?_
        obtain ⟨k1, k2, k3, oe, vs, T, oT, ts', he, hz, hd, h1, hr⟩ := id fl3
        unfold PySem.passOn
        refine wpAny_bind (wpAny_field he hd h1 ?_)
        rw [if_neg (show ¬ ((Value.ref T == Value.none) = true) from by simp)]
        have fin : wpAny (model X.prog X.w) X.A (setFlight (.ref a) X.env.frame) (fun _ s4 => wpAny (model X.prog X.w) X.A (throw (.ref a) : Sem Flow) (SP X pins D) X.xe s4) X.xe { s' with heap := h3 } := by
          rw [hf]
          refine HandSPX.setFlight_upZ fl3 fun h4 hh4 up4 => wpAny_throw (tk _ _ ?_)
          exact ⟨a, B, sI, pins, σ', H', cls, d, rfl, J, nb, (up.trans up3).trans up4, .inr (.inr (by rw [hs]; exact hh4)), na, os, ag, w⟩
        first
          | exact wpAny_bind (wpAny_pure (wpAny_bind fin))
          | exact wpAny_bind fin
      | @cons x c ts b₀ suite np pos' hds2 l2 hc hsu r ih =>
        intro w
        obtain ⟨b, hb1, hyes, hno⟩ := w
        have LM := PySem.W.exm_one (M := model X.prog X.w) (J3.kIn) LT hb1
        refine wpAny_handleBy_cons (codeAny_handlers_test ?_) (by intro q; cases q)
        refine test hc (LM.here ?_)
        cases b with
        | true =>
          refine codeAny_handlers_suite ?_
          refine HandSPX.lands_againZ fl3 fun h4 fl4 up4 => ?_
          have J4 : Inv X pins σ' H' { s' with heap := h4 } := J.landed nb fl4.1 ((up.trans up3).trans up4) os ag
          obtain ⟨oe4, vs4, he4, hz4, hd4⟩ := fl4.there
          have S4 := J4.suite he4 hd4 na nL nF
          refine wpAny_mono ((hsu a oe4 cls d (X.pn ++ pins) hz4 ⟨_, hd4⟩).run [] _ _ H' _ S4 (hyes rfl a na)) (fun f s6 hsp => ?_) (fun _ _ z => False.elim z)
          cases f with
          | next =>
            obtain ⟨σ6, H6, S6, q6⟩ := hsp
            exact ⟨_, _, S6.unsuite ok, q6⟩
          | brk =>
            obtain ⟨σ6, H6, S6, q6⟩ := hsp
            exact ⟨_, _, S6.unsuite ok, q6⟩
          | cont =>
            obtain ⟨σ6, H6, S6, q6⟩ := hsp
            exact ⟨_, _, S6.unsuite ok, q6⟩
          | ret u =>
            obtain ⟨v6, σ6, H6, S6, r6, q6⟩ := hsp
            exact ⟨_, _, _, S6.unsuite ok, r6, q6⟩
        | false =>
          show wpAny _ X.A (handleBy (.ref a) X.env hds2) _ _ _
          exact ih (hno rfl)
      | @consA x n i c ts b₀ suite np pos' hds2 l2 hc hi hln hsu r ih =>
        intro w
        obtain ⟨b, hb1, hyes, hno⟩ := w
        have LM := PySem.W.exm_one (M := model X.prog X.w) (J3.kIn) LT hb1
        have hloc : Loc X.env.scope n := .inl hln
        refine wpAny_handleBy_cons (codeAny_handlers_test ?_) (by intro q; cases q)
        refine test hc (LM.here ?_)
        cases b with
        | true =>
          refine codeAny_handlers_suite_as ?_
          refine HandSPX.lands_againZ fl3 fun h4 fl4 up4 => ?_
          have J4 : Inv X pins σ' H' { s' with heap := h4 } := J.landed nb fl4.1 ((up.trans up3).trans up4) os ag
          obtain ⟨oe4, vs4, he4, hz4, hd4⟩ := fl4.there
          have S4 := J4.suite he4 hd4 na nL nF
          refine store_ok (X := X.suite a ((a, oe4) :: (X.pn ++ pins))) (v := .ref a) S4 hN hi hloc rfl (fun s5 S5 => ?_) (.inr hln)
          refine wpAny_mono ((hsu a oe4 cls d (X.pn ++ pins) hz4 ⟨_, hd4⟩).run [] s5 _ H' _ S5 (hyes rfl a na)) (fun f s6 hsp => ?_) (fun _ _ z => False.elim z)
          have end_ : ∀ {σ6 : St} {H6 : Hp} {Q : Shared → Prop}, Inv (X.suite a ((a, oe4) :: (X.pn ++ pins))) [] σ6 H6 s6 → (∀ s7, Inv X pins (σ6.set i none) H6 s7 → Q s7) →
              wpAny (model X.prog X.w) X.A (do bindName X.env n .none; unbindBehindTheSuite X.env n pos') (fun _ s7 => Q s7) X.xe s6 := fun {σ6 H6 Q} S6 hq => gone_ok (S6.unsuite ok) hN hi hln hq
          cases f with
          | next =>
            obtain ⟨σ6, H6, S6, q6⟩ := hsp
            exact end_ S6 fun s7 J7 => ⟨_, _, J7, q6⟩
          | brk =>
            obtain ⟨σ6, H6, S6, q6⟩ := hsp
            exact end_ S6 fun s7 J7 => ⟨_, _, J7, q6⟩
          | cont =>
            obtain ⟨σ6, H6, S6, q6⟩ := hsp
            exact end_ S6 fun s7 J7 => ⟨_, _, J7, q6⟩
          | ret u =>
            obtain ⟨v6, σ6, H6, S6, r6, q6⟩ := hsp
            exact end_ S6 fun s7 J7 => ⟨_, _, _, J7, r6, q6⟩
        | false =>
          show wpAny _ X.A (handleBy (.ref a) X.env hds2) _ _ _
          exact ih (hno rfl)
    exact go hh w
  · cases f with
    | next =>
      obtain ⟨σ', H', J', q⟩ := hsp
      exact wpAny_execs_nil ⟨σ', H', J'.ofTry ok, q⟩
    | brk =>
      obtain ⟨σ', H', J', q⟩ := hsp
      exact ⟨σ', H', J'.ofTry ok, q⟩
    | cont =>
      obtain ⟨σ', H', J', q⟩ := hsp
      exact ⟨σ', H', J'.ofTry ok, q⟩
    | ret u =>
      obtain ⟨v, σ', H', J', r, q⟩ := hsp
      exact ⟨v, σ', H', J'.ofTry ok, r, q⟩
end
/-! ### isinstance of the error that the suite holds -/
/-- what the written part says of an error class, that isinstance asks of its instances -/
structure ExcIs (K : PySem.W.Frag) (C : Addr) : Prop where
  cl : (PySem.W.clsIn K C).isSome = true
  ga : PySem.W.findIn K (.ref C) "__getattribute__" = some (some (.builtin "BaseException.__getattribute__"))
  gg : PySem.W.findIn K (.ref C) "__getattr__" = some none
  be : PySem.W.subIn K (.ref C) (.type "BaseException") = some true
  ca : PySem.W.findIn K (.ref C) "__class__" = some (some (.builtin "object.__class__"))
  sp : PySem.W.specialIn K (.builtin "object.__class__") "__get__" = some (some (.builtin "getset_descriptor.__get__"))
  tk : PySem.W.takesIn K (.builtin "object.__class__") = some true
  mo : PySem.W.mroIn K C (.type "object") = some true
/-- isinstance(e, c): c a class; isinstance(e, (c1, ..)): the tuple just laid. a the error, cls its class, d its dict -/
def rIsX (K : PySem.W.Frag) (a : Addr) (cls : Value) (d : Option Addr) : List V → Hp → VK → Prop := fun xs H Q => ∃ (C : Addr) (dd : Addr) (fs : List (Str × V)), cls = .ref C ∧ ExcIs K C ∧ d = some dd ∧ H dd = some (.xd fs) ∧
  ((∃ (c : V) (u : Value) (b : Bool), xs = [.ref a, c] ∧ ClsV c u ∧ PySem.W.kitOne K cls u = some b ∧ Q (.bl b) H) ∨
   (∃ (tp : Addr) (cs : List V) (us : List Value) (b : Bool), xs = [.ref a, .ref tp] ∧ H tp = some (.tup cs) ∧ Paired ClsV cs us ∧ PySem.W.kitAny K cls us = some b ∧ Q (.bl b) H))
theorem call_isX {X : Cx} {a : Addr} {oe : Obj} {cls : Value} {d : Option Addr} {pn : List (Addr × Obj)} (hz : Zc cls d oe) (hf : ∃ vs, oe.data = .fields vs) : CallR (X.suite a ((a, oe) :: pn)) (.builtin "isinstance") (rIsX X.K a cls d) := by
  intro pins s σ H xs us Q I r h
  obtain ⟨C, dd, fs, rfl, T, rfl, hdd, h⟩ := h
  obtain ⟨hget, _⟩ := I.pin (a, oe) (List.mem_append.mpr (.inl List.mem_cons_self))
  have hx : ObjOk X.prog X.w H s.heap dd (.xd fs) := I.hok dd _ hdd
  obtain ⟨mA, hns, _⟩ := hx
  obtain ⟨od, ho, hl⟩ := lookIn_ns hns
  obtain ⟨vs, hv⟩ := hf
  have J : PySem.W.InstAt s.heap a oe C (some od) := ⟨hget, hz.1, by unfold PySem.W.notCls; rw [hv] <;> rfl, by rw [hz.2]; exact ho⟩
  have Z := PySem.W.kitx_exc (K := X.K) (x := a) (C := C) (ox := oe) (od := some od) T.cl T.ga T.gg T.be T.ca T.sp T.tk T.mo
  rcases h with ⟨c, u, b, rfl, hcu, e, q⟩ | ⟨tp, cs, ws, b, rfl, hT, hk, e, q⟩
  · obtain ⟨u1, u2, rfl, r1, r2⟩ := vals2 r
    have e2 := hcu.eq r2
    subst e2
    cases (show u1 = Value.ref a from r1)
    exact PySem.W.kia_one Z I.kIn J e (fun z => nomatch z) fun tk => ⟨.bl b, H, I.tok tk, rfl, q⟩
  · obtain ⟨u1, u2, rfl, r1, r2⟩ := vals2 r
    cases (show u2 = Value.ref tp from r2)
    cases (show u1 = Value.ref a from r1)
    obtain ⟨_, its, rv, o, h1, h2, n, h3⟩ := (show ObjOk X.prog X.w H s.heap tp (.tup cs) from I.hok tp _ hT)
    have e3 := ClsV.all hk rv
    subst e3
    obtain ⟨oc, od', dt, sl⟩ := o
    simp only at h2 h3
    subst h2 h3
    exact PySem.W.kia_tup Z I.kIn J h1 e (fun z => nomatch z) fun tk => ⟨.bl b, H, I.tok tk, rfl, q⟩
theorem rd_xf {a C : Addr} {cls : Value} {d : Option Addr} {f : Str} {te : TE} {σ : St} {H : Hp} {Q : VK} (h : te σ H fun x H1 => x = .ref a ∧ cls = .ref C ∧ ∃ (dd : Addr) (fs : List (Str × V)) (v : V), d = some dd ∧ H1 dd = some (.xd fs) ∧ fs.lookup f = some v ∧ Q v H1) : tXf a cls d C f te σ H Q := h
end L2
namespace K
open PySem PySem.Spec PyProof.Rows L2
def topS (i : Nat) : Stmt := PySem.Challenge.pw_seamfast_k04_two_lines.main.body.getD i (.Pass ⟨0, 0, 0, 0⟩)
abbrev s_is_integer : Stmt := topS 6
abbrev N_is_integer : List Str := ["thing", "low", "high"]
theorem sc_is_integer : FnScope N_is_integer ["thing", "low", "high"] (defScope s_is_integer) := ⟨rfl, rfl, rfl, by decide +kernel, rfl, by decide +kernel, by decide +kernel⟩
abbrev s_plain_text : Stmt := topS 7
abbrev N_plain_text : List Str := ["thing", "sign"]
theorem sc_plain_text : FnScope N_plain_text ["thing"] (defScope s_plain_text) := ⟨rfl, rfl, rfl, by decide +kernel, rfl, by decide +kernel, by decide +kernel⟩
abbrev s_breaks : Stmt := topS 9
abbrev N_breaks : List Str := ["text", "k"]
theorem sc_breaks : FnScope N_breaks ["text"] (defScope s_breaks) := ⟨rfl, rfl, rfl, by decide +kernel, rfl, by decide +kernel, by decide +kernel⟩
abbrev s_wider : Stmt := topS 10
abbrev N_wider : List Str := ["lines"]
theorem sc_wider : FnScope N_wider ["lines"] (defScope s_wider) := ⟨rfl, rfl, rfl, by decide +kernel, rfl, by decide +kernel, by decide +kernel⟩
abbrev s_two_lines : Stmt := topS 11
abbrev N_two_lines : List Str := ["text", "width", "least", "best", "lines", "apart"]
theorem sc_two_lines : FnScope N_two_lines ["text", "width"] (defScope s_two_lines) := ⟨rfl, rfl, rfl, by decide +kernel, rfl, by decide +kernel, by decide +kernel⟩
abbrev s_law_tape : Stmt := topS 13
abbrev N_law_tape : List Str := ["_law_script", "_law_cells", "_law_cell"]
theorem sc_law_tape : FnScope N_law_tape ["_law_script"] (defScope s_law_tape) := ⟨rfl, rfl, rfl, by decide +kernel, rfl, by decide +kernel, by decide +kernel⟩
abbrev s_law_pick : Stmt := topS 14
abbrev N_law_pick : List Str := ["_law_tape_here", "_law_many", "_law_digit", "_law_mixed"]
theorem sc_law_pick : FnScope N_law_pick ["_law_tape_here", "_law_many"] (defScope s_law_pick) := ⟨rfl, rfl, rfl, by decide +kernel, rfl, by decide +kernel, by decide +kernel⟩
abbrev s_law_some : Stmt := topS 15
abbrev N_law_some : List Str := ["_law_tape_here", "_law_low", "_law_high"]
theorem sc_law_some : FnScope N_law_some ["_law_tape_here", "_law_low", "_law_high"] (defScope s_law_some) := ⟨rfl, rfl, rfl, by decide +kernel, rfl, by decide +kernel, by decide +kernel⟩
abbrev s_law_text : Stmt := topS 16
abbrev N_law_text : List Str := ["_law_tape_here", "_law_most", "_law_signs", "_law_words", "_law_k", "_law_at"]
theorem sc_law_text : FnScope N_law_text ["_law_tape_here", "_law_most"] (defScope s_law_text) := ⟨rfl, rfl, rfl, by decide +kernel, rfl, by decide +kernel, by decide +kernel⟩
abbrev s_law_same : Stmt := topS 17
abbrev N_law_same : List Str := ["_law_told_here", "_law_due_here", "_law_k"]
theorem sc_law_same : FnScope N_law_same ["_law_told_here", "_law_due_here"] (defScope s_law_same) := ⟨rfl, rfl, rfl, by decide +kernel, rfl, by decide +kernel, by decide +kernel⟩
abbrev s_law_wide_text : Stmt := topS 18
abbrev N_law_wide_text : List Str := ["_law_tape_here", "_law_signs", "_law_kind", "_law_text_here", "_law_k", "_law_many", "_law_word", "_law_at"]
theorem sc_law_wide_text : FnScope N_law_wide_text ["_law_tape_here"] (defScope s_law_wide_text) := ⟨rfl, rfl, rfl, by decide +kernel, rfl, by decide +kernel, by decide +kernel⟩
abbrev s_law_least : Stmt := topS 19
abbrev N_law_least : List Str := ["_law_text_here", "_law_wide", "_law_k"]
theorem sc_law_least : FnScope N_law_least ["_law_text_here"] (defScope s_law_least) := ⟨rfl, rfl, rfl, by decide +kernel, rfl, by decide +kernel, by decide +kernel⟩
abbrev s_law_width : Stmt := topS 20
abbrev N_law_width : List Str := ["_law_tape_here", "_law_text_here", "_law_wide", "_law_edge", "_law_any_width", "_law_near"]
theorem sc_law_width : FnScope N_law_width ["_law_tape_here", "_law_text_here"] (defScope s_law_width) := ⟨rfl, rfl, rfl, by decide +kernel, rfl, by decide +kernel, by decide +kernel⟩
abbrev s_law_due : Stmt := topS 21
abbrev N_law_due : List Str := ["_law_text_here", "_law_width_here", "_law_best", "_law_k", "_law_behind"]
theorem sc_law_due : FnScope N_law_due ["_law_text_here", "_law_width_here"] (defScope s_law_due) := ⟨rfl, rfl, rfl, by decide +kernel, rfl, by decide +kernel, by decide +kernel⟩
abbrev s_law_told : Stmt := topS 22
abbrev N_law_told : List Str := ["_law_text_here", "_law_width_here", "_law_lines", "raised"]
theorem sc_law_told : FnScope N_law_told ["_law_text_here", "_law_width_here"] (defScope s_law_told) := ⟨rfl, rfl, rfl, by decide +kernel, rfl, by decide +kernel, by decide +kernel⟩
abbrev s_law_base : Stmt := topS 23
abbrev N_law_base : List Str := ["_law_text_here", "_law_width_here", "raised"]
theorem sc_law_base : FnScope N_law_base ["_law_text_here", "_law_width_here"] (defScope s_law_base) := ⟨rfl, rfl, rfl, by decide +kernel, rfl, by decide +kernel, by decide +kernel⟩
abbrev s_law_no_text : Stmt := topS 24
abbrev N_law_no_text : List Str := ["_law_tape_here", "_law_text_here", "_law_at", "_law_menu"]
theorem sc_law_no_text : FnScope N_law_no_text ["_law_tape_here", "_law_text_here"] (defScope s_law_no_text) := ⟨rfl, rfl, rfl, by decide +kernel, rfl, by decide +kernel, by decide +kernel⟩
abbrev s_law : Stmt := topS 25
abbrev N_law : List Str := ["_law_script", "_law_tape_here", "_law_text_here", "_law_width_here", "_law_other", "_law_other_width", "_law_due_here", "_law_wide", "_law_bad", "_law_bad_width"]
theorem sc_law : FnScope N_law ["_law_script"] (defScope s_law) := ⟨rfl, rfl, rfl, by decide +kernel, rfl, by decide +kernel, by decide +kernel⟩
/-- what the top leaves, as the defs' proofs take it -/
structure Txt (P : Program) (K : PySem.W.Frag) (mg : Str → Option Value) (A : Nat → Addr) (D : Nat → FuncData) : Prop where
  n_len : mg "len" = none
  n_range : mg "range" = none
  n_isinstance : mg "isinstance" = none
  n_int : mg "int" = none
  n_str : mg "str" = none
  n_bool : mg "bool" = none
  n_tuple : mg "tuple" = none
  n_ValueError : mg "ValueError" = none
  n_all : mg "all" = none
  n_ord : mg "ord" = none
  n_max : mg "max" = none
  n_min : mg "min" = none
  n_abs : mg "abs" = none
  m_is_integer : mg "is_integer" = some (.ref (A 0))
  k_is_integer : PySem.W.keepIn K (.ref (A 0)) = true
  F_is_integer : FunD K "is_integer" "is_integer" (defArgs s_is_integer) (defBody s_is_integer) (defScope s_is_integer) [.non] [] (A 0) (D 0)
  b_is_integer : Binds K (D 0) ["thing", "low", "high"] []
  bd_is_integer : ∃ ds, Vals [.non] ds ∧ Binds K (D 0) ["thing", "low", "high"] ds
  m_plain_text : mg "plain_text" = some (.ref (A 1))
  k_plain_text : PySem.W.keepIn K (.ref (A 1)) = true
  F_plain_text : Fun K "plain_text" "plain_text" s_plain_text (A 1) (D 1)
  b_plain_text : Binds K (D 1) ["thing"] []
  m_breaks : mg "breaks" = some (.ref (A 2))
  k_breaks : PySem.W.keepIn K (.ref (A 2)) = true
  F_breaks : Fun K "breaks" "breaks" s_breaks (A 2) (D 2)
  b_breaks : Binds K (D 2) ["text"] []
  m_wider : mg "wider" = some (.ref (A 3))
  k_wider : PySem.W.keepIn K (.ref (A 3)) = true
  F_wider : Fun K "wider" "wider" s_wider (A 3) (D 3)
  b_wider : Binds K (D 3) ["lines"] []
  m_two_lines : mg "two_lines" = some (.ref (A 4))
  k_two_lines : PySem.W.keepIn K (.ref (A 4)) = true
  F_two_lines : Fun K "two_lines" "two_lines" s_two_lines (A 4) (D 4)
  b_two_lines : Binds K (D 4) ["text", "width"] []
  m_law_tape : mg "_law_tape" = some (.ref (A 5))
  k_law_tape : PySem.W.keepIn K (.ref (A 5)) = true
  F_law_tape : Fun K "_law_tape" "_law_tape" s_law_tape (A 5) (D 5)
  b_law_tape : Binds K (D 5) ["_law_script"] []
  m_law_pick : mg "_law_pick" = some (.ref (A 6))
  k_law_pick : PySem.W.keepIn K (.ref (A 6)) = true
  F_law_pick : Fun K "_law_pick" "_law_pick" s_law_pick (A 6) (D 6)
  b_law_pick : Binds K (D 6) ["_law_tape_here", "_law_many"] []
  m_law_some : mg "_law_some" = some (.ref (A 7))
  k_law_some : PySem.W.keepIn K (.ref (A 7)) = true
  F_law_some : Fun K "_law_some" "_law_some" s_law_some (A 7) (D 7)
  b_law_some : Binds K (D 7) ["_law_tape_here", "_law_low", "_law_high"] []
  m_law_text : mg "_law_text" = some (.ref (A 8))
  k_law_text : PySem.W.keepIn K (.ref (A 8)) = true
  F_law_text : Fun K "_law_text" "_law_text" s_law_text (A 8) (D 8)
  b_law_text : Binds K (D 8) ["_law_tape_here", "_law_most"] []
  m_law_same : mg "_law_same" = some (.ref (A 9))
  k_law_same : PySem.W.keepIn K (.ref (A 9)) = true
  F_law_same : Fun K "_law_same" "_law_same" s_law_same (A 9) (D 9)
  b_law_same : Binds K (D 9) ["_law_told_here", "_law_due_here"] []
  m_law_wide_text : mg "_law_wide_text" = some (.ref (A 10))
  k_law_wide_text : PySem.W.keepIn K (.ref (A 10)) = true
  F_law_wide_text : Fun K "_law_wide_text" "_law_wide_text" s_law_wide_text (A 10) (D 10)
  b_law_wide_text : Binds K (D 10) ["_law_tape_here"] []
  m_law_least : mg "_law_least" = some (.ref (A 11))
  k_law_least : PySem.W.keepIn K (.ref (A 11)) = true
  F_law_least : Fun K "_law_least" "_law_least" s_law_least (A 11) (D 11)
  b_law_least : Binds K (D 11) ["_law_text_here"] []
  m_law_width : mg "_law_width" = some (.ref (A 12))
  k_law_width : PySem.W.keepIn K (.ref (A 12)) = true
  F_law_width : Fun K "_law_width" "_law_width" s_law_width (A 12) (D 12)
  b_law_width : Binds K (D 12) ["_law_tape_here", "_law_text_here"] []
  m_law_due : mg "_law_due" = some (.ref (A 13))
  k_law_due : PySem.W.keepIn K (.ref (A 13)) = true
  F_law_due : Fun K "_law_due" "_law_due" s_law_due (A 13) (D 13)
  b_law_due : Binds K (D 13) ["_law_text_here", "_law_width_here"] []
  m_law_told : mg "_law_told" = some (.ref (A 14))
  k_law_told : PySem.W.keepIn K (.ref (A 14)) = true
  F_law_told : Fun K "_law_told" "_law_told" s_law_told (A 14) (D 14)
  b_law_told : Binds K (D 14) ["_law_text_here", "_law_width_here"] []
  m_law_base : mg "_law_base" = some (.ref (A 15))
  k_law_base : PySem.W.keepIn K (.ref (A 15)) = true
  F_law_base : Fun K "_law_base" "_law_base" s_law_base (A 15) (D 15)
  b_law_base : Binds K (D 15) ["_law_text_here", "_law_width_here"] []
  m_law_no_text : mg "_law_no_text" = some (.ref (A 16))
  k_law_no_text : PySem.W.keepIn K (.ref (A 16)) = true
  F_law_no_text : Fun K "_law_no_text" "_law_no_text" s_law_no_text (A 16) (D 16)
  b_law_no_text : Binds K (D 16) ["_law_tape_here", "_law_text_here"] []
  m_law : mg "law" = some (.ref (A 17))
  k_law : PySem.W.keepIn K (.ref (A 17)) = true
  F_law : Fun K "law" "law" s_law (A 17) (D 17)
  b_law : Binds K (D 17) ["_law_script"] []
  v_BadText : mg "BadText" = some (.ref (A 18))
  e_BadText : PySem.ErrX.ErrTxt P K mg "BadText" "BadText.__init__" "BadText" "at" (A 18) (A 19)
  xf_BadText : XfC K (A 18)
  no_BadText : PySem.W.findIn K (.ref (A 18)) "at" = some none
  is_BadText : ExcIs K (A 18)
  v_BadWidth : mg "BadWidth" = some (.ref (A 20))
  e_BadWidth : PySem.ErrX.ErrTxt P K mg "BadWidth" "BadWidth.__init__" "BadWidth" "width" (A 20) (A 21)
  xf_BadWidth : XfC K (A 20)
  no_BadWidth : PySem.W.findIn K (.ref (A 20)) "width" = some none
  is_BadWidth : ExcIs K (A 20)
  v_TooWide : mg "TooWide" = some (.ref (A 22))
  e_TooWide : PySem.ErrX.ErrTxt P K mg "TooWide" "TooWide.__init__" "TooWide" "least" (A 22) (A 23)
  xf_TooWide : XfC K (A 22)
  no_TooWide : PySem.W.findIn K (.ref (A 22)) "least" = some none
  is_TooWide : ExcIs K (A 22)
  v_CaptionError : mg "CaptionError" = some (.ref (A 24))
  x_BadText_BadText : PySem.W.exmOne K (.ref (A 18)) (.ref (A 18)) = some true
  i_BadText_BadText : PySem.W.kitOne K (.ref (A 18)) (.ref (A 18)) = some true
  x_BadText_BadWidth : PySem.W.exmOne K (.ref (A 18)) (.ref (A 20)) = some false
  i_BadText_BadWidth : PySem.W.kitOne K (.ref (A 18)) (.ref (A 20)) = some false
  x_BadText_TooWide : PySem.W.exmOne K (.ref (A 18)) (.ref (A 22)) = some false
  i_BadText_TooWide : PySem.W.kitOne K (.ref (A 18)) (.ref (A 22)) = some false
  x_BadText_CaptionError : PySem.W.exmOne K (.ref (A 18)) (.ref (A 24)) = some true
  i_BadText_CaptionError : PySem.W.kitOne K (.ref (A 18)) (.ref (A 24)) = some true
  i_BadText_ValueError : PySem.W.kitOne K (.ref (A 18)) (.type "ValueError") = some true
  x_BadWidth_BadText : PySem.W.exmOne K (.ref (A 20)) (.ref (A 18)) = some false
  i_BadWidth_BadText : PySem.W.kitOne K (.ref (A 20)) (.ref (A 18)) = some false
  x_BadWidth_BadWidth : PySem.W.exmOne K (.ref (A 20)) (.ref (A 20)) = some true
  i_BadWidth_BadWidth : PySem.W.kitOne K (.ref (A 20)) (.ref (A 20)) = some true
  x_BadWidth_TooWide : PySem.W.exmOne K (.ref (A 20)) (.ref (A 22)) = some false
  i_BadWidth_TooWide : PySem.W.kitOne K (.ref (A 20)) (.ref (A 22)) = some false
  x_BadWidth_CaptionError : PySem.W.exmOne K (.ref (A 20)) (.ref (A 24)) = some true
  i_BadWidth_CaptionError : PySem.W.kitOne K (.ref (A 20)) (.ref (A 24)) = some true
  i_BadWidth_ValueError : PySem.W.kitOne K (.ref (A 20)) (.type "ValueError") = some true
  x_TooWide_BadText : PySem.W.exmOne K (.ref (A 22)) (.ref (A 18)) = some false
  i_TooWide_BadText : PySem.W.kitOne K (.ref (A 22)) (.ref (A 18)) = some false
  x_TooWide_BadWidth : PySem.W.exmOne K (.ref (A 22)) (.ref (A 20)) = some false
  i_TooWide_BadWidth : PySem.W.kitOne K (.ref (A 22)) (.ref (A 20)) = some false
  x_TooWide_TooWide : PySem.W.exmOne K (.ref (A 22)) (.ref (A 22)) = some true
  i_TooWide_TooWide : PySem.W.kitOne K (.ref (A 22)) (.ref (A 22)) = some true
  x_TooWide_CaptionError : PySem.W.exmOne K (.ref (A 22)) (.ref (A 24)) = some true
  i_TooWide_CaptionError : PySem.W.kitOne K (.ref (A 22)) (.ref (A 24)) = some true
  i_TooWide_ValueError : PySem.W.kitOne K (.ref (A 22)) (.type "ValueError") = some true
end K
namespace K
open PySem PySem.Spec PyProof.Rows L2
/-! one step of a reading; as many as go -/
local macro_rules | `(tactic| walk_at "rs1") => `(tactic| first
  | (with_reducible refine rd_next ?_) | (with_reducible refine rd_ret ?_) | (with_reducible refine rd_retN ?_) | (with_reducible refine rd_break ?_) | (with_reducible refine rd_cont ?_)
  | (with_reducible refine rd_drop ?_) | (with_reducible refine rd_asg ?_) | (with_reducible refine rd_gname ?_; dsimp only [List.set_cons_zero, List.set_cons_succ]) | (with_reducible refine rd_gsub ?_) | (with_reducible refine rd_if ?_)
  | (with_reducible refine rd_var (by with_unfolding_all exact rfl) ?_) | (with_reducible refine rd_c ?_) | (with_reducible refine rd_op ?_) | (with_reducible refine rd_un ?_) | (with_reducible refine rd_chain ?_)
  | (with_reducible refine rd_test ?_) | (with_reducible refine rd_tB ?_) | (with_reducible refine rd_not ?_) | (with_reducible refine rd_and ?_) | (with_reducible refine rd_or ?_)
  | (with_reducible refine rd_andV ?_) | (with_reducible refine rd_orV ?_) | (with_reducible refine rd_notV ?_) | (with_reducible refine rd_ifE ?_) | (with_reducible refine rd_yes ?_)
  | (with_reducible refine rd_cons ?_) | (with_reducible refine rd_nil ?_) | (with_reducible refine rd_cb ?_) | (with_reducible refine rd_call ?_) | (with_reducible refine rd_callS ?_)
  | (with_reducible refine rd_tup ?_) | (with_reducible refine rd_lst ?_) | (with_reducible refine rd_sl ?_) | (with_reducible refine rd_part ?_) | (with_reducible refine rd_nopart ?_)
  | (with_reducible refine rd_bm ?_) | (with_reducible refine rd_bm0 ?_) | (with_reducible refine rd_m0 ?_) | (with_reducible refine rd_m1 ?_) | (with_reducible refine rd_isS ?_)
  | (with_reducible refine rd_I0 ?_) | (with_reducible refine rd_U ?_) | (with_reducible refine rd_eq (by with_unfolding_all exact rfl) ?_) | (with_reducible refine rd_ne (by with_unfolding_all exact rfl) ?_)
  | (with_reducible refine rd_isN_non ?_) | (with_reducible refine rd_isN_int ?_) | (with_reducible refine rd_isN_str ?_) | (with_reducible refine rd_isN_ref ?_) | (with_reducible refine rd_isN_bl ?_)
  | (with_reducible refine rd_notN_non ?_) | (with_reducible refine rd_notN_int ?_) | (with_reducible refine rd_notN_str ?_) | (with_reducible refine rd_notN_ref ?_)
  | (with_reducible refine rd_abs ?_) | (with_reducible refine rd_max ?_) | (with_reducible refine rd_min ?_) | (with_reducible refine rd_int ?_) | (with_reducible refine rd_ord ?_)
  | (with_reducible refine rd_inS ?_) | (with_reducible refine rd_notinS ?_)
  | (with_reducible refine iteT ?_) | (with_reducible refine iteF ?_) | (with_reducible refine rd_nT ?_) | (with_reducible refine rd_nF ?_)
  | (with_reducible refine rd_for ?_) | (with_reducible refine rd_lc ?_) | (with_reducible refine rd_iStr ?_) | (with_reducible refine rd_rng1 ?_) | (with_reducible refine rd_rngN (by omega) ?_; rw [Int.toNat_natCast]) | (with_reducible refine rd_rngI (by omega) ?_) | (with_reducible refine rd_lenA (sz _ (by omega)) ?_)
  | (with_reducible refine rd_mod (by omega) ?_) | (with_reducible refine rd_div (by omega) (by omega) ?_) | (with_reducible refine rd_mulR (by omega) (by omega) ?_) | (with_reducible refine rd_mulL (by omega) (by omega) ?_) | (with_reducible refine rd_pow (by decide) (by decide +kernel) ?_)
  | (with_reducible refine rd_xf ?_)
  | (with_reducible refine rd_raiseErr ?_) | (with_reducible refine rd_iList ?_)
  | (with_reducible refine ⟨_, rfl, ?_⟩))
local macro_rules | `(tactic| walk_at "rd1") => `(tactic| first | (with_reducible refine rd_seq ?_) | walk_at "rs1")
local macro_rules | `(tactic| walk_at "rs") => `(tactic| (repeat (walk_at "rs1")))
local macro_rules | `(tactic| walk_at "rd") => `(tactic| (repeat (walk_at "rd1")))

section
variable {P : Program} {w : World} {K : PySem.W.Frag} {mg : Str → Option Value} {base : Heap} {A : Nat → Addr} {D : Nat → FuncData}
/-! ### is_integer -/
def sp_is_integer (K : PySem.W.Frag) : Sp := fun vs H Q _ => ∃ v d lo hi, vs = [v, .int lo, .int hi] ∧ Dp K H v d ∧ Q (.bl (isIn d lo hi)) H
theorem ok_is_integer (T : Txt P K mg A D) : FnOk P w K mg base CX0 1 (A 0) (D 0) ["thing", "low", "high"] (sp_is_integer K) := by
  refine T.F_is_integer.ok sc_is_integer (fun vs H Q E h => ?_) (fun cdv B outer s H vs Q E hr h => ?_)
  · obtain ⟨v, d, lo, hi, rfl, _⟩ := h
    rfl
  obtain ⟨v, d, lo, hi, rfl, hd, q⟩ := h
  refine ⟨_, (pss_cons (ps_if (PW.pt (pw_or (pt_not (pt_val (pe_callB call_isi (by rfl) T.n_isinstance (by decide +kernel) (pa_cons (pv 0) (pa_cons (pe_bltn (v := .ty "int") (u := .type "int") (by rfl) T.n_int (by decide +kernel) rfl) pa_nil))))) (pw_or1 (pt_val (pe_callB call_isi (by rfl) T.n_isinstance (by decide +kernel) (pa_cons (pv 0) (pa_cons (pe_bltn (v := .ty "bool") (u := .type "bool") (by rfl) T.n_bool (by decide +kernel) rfl) pa_nil))))))) (pss_one (ps_ret pe_bl)) pss_nil)
        (pss_one (ps_ret (pe_and (pe_cmpR op_ge (pv 0) (pv 1) (nomark _)) (pe_one (pe_or (pe_cmpR oq_isN (pv 2) pe_non (nomark _)) (pe_one (pe_cmpR op_le (pv 0) (pv 2) (nomark _))))))))), ?_⟩
  refine rd_start (σ := [some v, some (.int lo), some (.int hi)]) rfl ?_
  walk_at "rd"
  refine rd_isi hd (kit_int hd) ?_
  cases hd with
  | int i =>
    dsimp only [L2.isInt, L2.isBool]
    walk_at "rd"
    refine rd_isi (K := K) (.int i) (kit_bool (K := K) (H := H) (.int i)) ?_
    dsimp only [L2.isInt, L2.isBool]
    walk_at "rd"
    refine ite2 (fun h1 => ?_) (fun h1 => ?_)
    · walk_at "rd"
      have e : isIn (.int i) lo hi = decide (i ≤ hi) := by
        show (decide (lo ≤ i) && decide (i ≤ hi)) = _
        rw [h1, Bool.true_and]
      rw [e] at q
      exact q
    · have e : isIn (.int i) lo hi = false := by
        show (decide (lo ≤ i) && decide (i ≤ hi)) = _
        rw [Bool.eq_false_iff.mpr h1, Bool.false_and]
      rw [e] at q
      exact q
  | bl b =>
    dsimp only [L2.isInt, L2.isBool]
    walk_at "rd"
    refine rd_isi (K := K) (.bl b) (kit_bool (K := K) (H := H) (.bl b)) ?_
    dsimp only [L2.isInt, L2.isBool]
    walk_at "rd"
    exact q
  | non => dsimp only [L2.isInt, L2.isBool]; walk_at "rd"; exact q
  | str x => dsimp only [L2.isInt, L2.isBool]; walk_at "rd"; exact q
  | lst h1 h2 => dsimp only [L2.isInt, L2.isBool]; walk_at "rd"; exact q
  | tup h1 h2 => dsimp only [L2.isInt, L2.isBool]; walk_at "rd"; exact q
/-! ### plain_text -/
theorem dec_int (i j : Int) : decide (V.int i = V.int j) = decide (i = j) := by
  by_cases h : i = j
  · subst h
    simp
  · rw [decide_eq_false h, decide_eq_false fun e => h (by injection e)]
theorem dec_nat (i j : Nat) : decide ((i : Int) = (j : Int)) = decide (i = j) := by
  by_cases h : i = j
  · subst h
    simp
  · rw [decide_eq_false h, decide_eq_false (by omega)]
def sp_plain_text (K : PySem.W.Frag) : Sp := fun vs H Q _ => ∃ v d, vs = [v] ∧ Dp K H v d ∧ (∀ x, d = .str x → x.length ≤ 1000) ∧ ∀ H', Same H H' → Q (.bl (plainD d)) H'
theorem ok_plain_text (T : Txt P K mg A D) : FnOk P w K mg base CX0 1 (A 1) (D 1) ["thing"] (sp_plain_text K) := by
  refine T.F_plain_text.ok sc_plain_text (fun vs H Q E h => ?_) (fun cdv B outer s H vs Q E hr h => ?_)
  · obtain ⟨v, d, rfl, _⟩ := h
    rfl
  obtain ⟨v, d, rfl, hd, hsz, q⟩ := h
  refine ⟨_, (pss_cons (ps_if (PW.pt (pw_or (pt_not (pt_val (pe_callB call_isi (by rfl) T.n_isinstance (by decide +kernel) (pa_cons (pv 0) (pa_cons (pe_bltn (v := .ty "str") (u := .type "str") (by rfl) T.n_str (by decide +kernel) rfl) pa_nil))))) (pw_or1 (pt_not (pt_chain op_le op_le pe_int (pe_callB cq_lenS (by rfl) T.n_len (by decide +kernel) (pa_cons (pv 0) pa_nil)) pe_int))))) (pss_one (ps_ret pe_bl)) pss_nil)
        (pss_cons (ps_if (pt_not (pt_val (pe_callB (cr_all rfl) (by rfl) T.n_all (by decide +kernel) (pa_cons (pe_lc (own := [("sign", 1)]) (g := gName 1) (tt := tYes) (by rfl) sc_plain_text.nd (pi_str (pv 0)) (blkOk_by (N := N_plain_text) (sc := defScope s_plain_text) (own := [("sign", 1)]) (by decide +kernel)) (fun _ _ _ _ _ => pg_name (i := 1) sc_plain_text.nd rfl (Or.inl rfl)) (fun _ _ _ _ _ => pts_nil) (fun _ _ _ _ _ => (pe_and (pe_chain op_le op_le pe_int (pe_callB cq_ord (by rfl) T.n_ord (by decide +kernel) (pa_cons (pv 1) pa_nil)) pe_int) (pe_one (pe_cmpR op_ne (pe_callB cq_ord (by rfl) T.n_ord (by decide +kernel) (pa_cons (pv 1) pa_nil)) pe_int (nomark _)))))) pa_nil)))) (pss_one (ps_ret pe_bl)) pss_nil)
        (pss_one (ps_ret (pe_and (pe_cmpR op_ne (pe_ix ix_str (pv 0) pe_int (fun _ _ => rfl)) pe_str (nomark _)) (pe_and (pe_cmpR op_ne (pe_ix ix_str (pv 0) (pe_un un_neg pe_int) (fun _ _ => rfl)) pe_str (nomark _)) (pe_one (pe_cmpR oq_notinS pe_str (pv 0) rfl)))))))), ?_⟩
  refine rd_start (σ := [some v, none]) rfl ?_
  walk_at "rd"
  refine rd_isi hd (kit_str hd) ?_
  cases hd with
  | int i => dsimp only [L2.isStr]; walk_at "rd"; exact q H (Same.refl H)
  | bl b => dsimp only [L2.isStr]; walk_at "rd"; exact q H (Same.refl H)
  | non => dsimp only [L2.isStr]; walk_at "rd"; exact q H (Same.refl H)
  | lst h1 h2 => dsimp only [L2.isStr]; walk_at "rd"; exact q H (Same.refl H)
  | tup h1 h2 => dsimp only [L2.isStr]; walk_at "rd"; exact q H (Same.refl H)
  | str x =>
    dsimp only [L2.isStr]
    obtain ⟨a, rfl⟩ : ∃ a, x = SX.S a := ⟨x.cps.toList, (SX.S_tl x).symm⟩
    have hz : a.length ≤ 1000 := by
      have := hsz _ rfl
      rwa [SX.S_len] at this
    have q' : ∀ b, plainL a = b → ∀ H', Same H H' → Q (.bl b) H' := fun b e => by
      rw [← e]
      exact q
    clear q
    walk_at "rd"
    refine ite2 (fun h1 => ?_) (fun h1 => ?_)
    rotate_left
    · walk_at "rd"
      refine q' false ?_ H (Same.refl H)
      unfold plainL
      rw [decide_eq_false, Bool.false_and]
      rw [decide_eq_true_eq] at h1
      omega
    walk_at "rd"
    have h1 := of_decide_eq_true h1
    refine ite2 (fun h2 => ?_) (fun h2 => ?_)
    · walk_at "rd"
      refine q' false ?_ H (Same.refl H)
      unfold plainL
      rw [decide_eq_false, Bool.false_and]
      simp only [Bool.not_eq_true', decide_eq_false_iff_not] at h2
      omega
    have h2 : (a.length : Int) ≤ 60 := by simpa using h2
    have e0 : decide (1 ≤ a.length ∧ a.length ≤ 60) = true := decide_eq_true (by omega)
    walk_at "rd"
    intro Dz hDz
    have sz' : a.toArray.size = a.length := List.size_toArray ..
    refine lcF walk_str (fun _ => true) (fun i => .bl (okC (a.getD i 0))) hDz ?_ ?_ ?_ ?_ ?_ ?_ ?_
    · show a.toArray.size < _
      omega
    · exact fun x => rfl
    · exact fun _ _ => trivial
    · exact fun i H x H' y => y.1
    · exact fun i x H2 hi e y Q' h => h
    · intro i x H2 hi _ e y Q' h
      obtain ⟨_, c, hc, rfl⟩ := y
      have hi' : i < a.length := by
        have : i < a.toArray.size := hi
        omega
      have hc2 : a[i]? = some c := by
        have : a.toArray[i]? = some c := hc
        rwa [List.getElem?_toArray] at this
      have hc3 : a.getD i 0 = c := by rw [List.getD_eq_getElem?_getD, hc2]; rfl
      rw [hc3] at h
      walk_at "rd"
      refine ite2 (fun h1 => ?_) (fun h1 => ?_)
      · walk_at "rd"
        refine ite2 (fun h2 => ?_) (fun h2 => ?_)
        · walk_at "rd"
          have e1 : okC c = !decide (V.int (c : Int) = V.int 37) := by
            unfold okC
            rw [h1, h2, dec_int, ← dec_nat]
            rfl
          rw [e1] at h
          exact h
        · have e1 : okC c = false := by
            unfold okC
            rw [Bool.eq_false_iff.mpr h2, Bool.and_false, Bool.false_and]
          rw [e1] at h
          exact h
      · walk_at "rd"
        have e1 : okC c = false := by
          unfold okC
          rw [Bool.eq_false_iff.mpr h1, Bool.false_and, Bool.false_and]
        rw [e1] at h
        exact h
    · intro H' e hD
      rw [kept_all] at hD
      change H' Dz = some (.lst ((List.range a.toArray.size).map _)) at hD
      rw [sz', range_map a (fun c => V.bl (okC c)) _ (fun i hi => by rw [List.getD_eq_getElem?_getD, List.getElem?_eq_getElem hi]; rfl)] at hD
      walk_at "rd"
      refine rd_all (bs := a.map okC) (sqL_of (by rw [hD, List.map_map]; rfl)) ?_
      rw [List.all_map]
      walk_at "rd"
      have e3 : a.all (id ∘ okC) = a.all okC := rfl
      rw [e3]
      cases hall : a.all okC with
      | false =>
        walk_at "rd"
        refine q' false ?_ H' e
        unfold plainL
        rw [hall, Bool.false_and, Bool.and_false]
      | true =>
        walk_at "rd"
        have h0 : 0 < a.length := by omega
        refine rd_ixA (k := 0) rfl (sz _ (by omega)) h0 ?_
        walk_at "rd"
        have eh : decide (V.str (SX.S [a[0]]) = V.str (Str.ofString " ")) = decide (a.head? = some 32) := by
          rw [show (V.str (Str.ofString " ")) = V.str (SX.S [32]) from rfl, S_one]
          cases a with
          | nil => exact absurd h0 (by decide)
          | cons c r => simp
        rw [eh]
        cases hh : decide (a.head? = some 32) with
        | true =>
          walk_at "rd"
          refine q' false ?_ H' e
          unfold plainL
          rw [hh]
          simp
        | false =>
          walk_at "rd"
          refine rd_ixE (sz _ (by omega)) h0 ?_
          walk_at "rd"
          have el : decide (V.str (SX.S [a[a.length - 1]'(by omega)]) = V.str (Str.ofString " ")) = decide (a.getLast? = some 32) := by
            rw [show (V.str (Str.ofString " ")) = V.str (SX.S [32]) from rfl, S_one, List.getLast?_eq_getElem?, List.getElem?_eq_getElem (show a.length - 1 < a.length by omega)]
            simp
          rw [el]
          cases hl : decide (a.getLast? = some 32) with
          | true =>
            walk_at "rd"
            refine q' false ?_ H' e
            unfold plainL
            rw [hl]
            simp
          | false =>
            walk_at "rd"
            refine q' _ ?_ H' e
            unfold plainL
            rw [e0, hall, hh, hl]
            exact congrArg Bool.not (dbl_S a).symm

end
end K
namespace K
open PySem PySem.Spec PyProof.Rows L2
/-! one step of a reading; as many as go -/
local macro_rules | `(tactic| walk_at "rs1") => `(tactic| first
  | (with_reducible refine rd_next ?_) | (with_reducible refine rd_ret ?_) | (with_reducible refine rd_retN ?_) | (with_reducible refine rd_break ?_) | (with_reducible refine rd_cont ?_)
  | (with_reducible refine rd_drop ?_) | (with_reducible refine rd_asg ?_) | (with_reducible refine rd_gname ?_; dsimp only [List.set_cons_zero, List.set_cons_succ]) | (with_reducible refine rd_gsub ?_) | (with_reducible refine rd_if ?_)
  | (with_reducible refine rd_var (by with_unfolding_all exact rfl) ?_) | (with_reducible refine rd_c ?_) | (with_reducible refine rd_op ?_) | (with_reducible refine rd_un ?_) | (with_reducible refine rd_chain ?_)
  | (with_reducible refine rd_test ?_) | (with_reducible refine rd_tB ?_) | (with_reducible refine rd_not ?_) | (with_reducible refine rd_and ?_) | (with_reducible refine rd_or ?_)
  | (with_reducible refine rd_andV ?_) | (with_reducible refine rd_orV ?_) | (with_reducible refine rd_notV ?_) | (with_reducible refine rd_ifE ?_) | (with_reducible refine rd_yes ?_)
  | (with_reducible refine rd_cons ?_) | (with_reducible refine rd_nil ?_) | (with_reducible refine rd_cb ?_) | (with_reducible refine rd_call ?_) | (with_reducible refine rd_callS ?_)
  | (with_reducible refine rd_tup ?_) | (with_reducible refine rd_lst ?_) | (with_reducible refine rd_sl ?_) | (with_reducible refine rd_part ?_) | (with_reducible refine rd_nopart ?_)
  | (with_reducible refine rd_bm ?_) | (with_reducible refine rd_bm0 ?_) | (with_reducible refine rd_m0 ?_) | (with_reducible refine rd_m1 ?_) | (with_reducible refine rd_isS ?_)
  | (with_reducible refine rd_I0 ?_) | (with_reducible refine rd_U ?_) | (with_reducible refine rd_eq (by with_unfolding_all exact rfl) ?_) | (with_reducible refine rd_ne (by with_unfolding_all exact rfl) ?_)
  | (with_reducible refine rd_isN_non ?_) | (with_reducible refine rd_isN_int ?_) | (with_reducible refine rd_isN_str ?_) | (with_reducible refine rd_isN_ref ?_) | (with_reducible refine rd_isN_bl ?_)
  | (with_reducible refine rd_notN_non ?_) | (with_reducible refine rd_notN_int ?_) | (with_reducible refine rd_notN_str ?_) | (with_reducible refine rd_notN_ref ?_)
  | (with_reducible refine rd_abs ?_) | (with_reducible refine rd_max ?_) | (with_reducible refine rd_min ?_) | (with_reducible refine rd_int ?_) | (with_reducible refine rd_ord ?_)
  | (with_reducible refine rd_inS ?_) | (with_reducible refine rd_notinS ?_)
  | (with_reducible refine iteT ?_) | (with_reducible refine iteF ?_) | (with_reducible refine rd_nT ?_) | (with_reducible refine rd_nF ?_)
  | (with_reducible refine rd_for ?_) | (with_reducible refine rd_lc ?_) | (with_reducible refine rd_iStr ?_) | (with_reducible refine rd_rng1 ?_) | (with_reducible refine rd_rngN (by omega) ?_; rw [Int.toNat_natCast]) | (with_reducible refine rd_rngI (by omega) ?_) | (with_reducible refine rd_lenA (sz _ (by omega)) ?_)
  | (with_reducible refine rd_mod (by omega) ?_) | (with_reducible refine rd_div (by omega) (by omega) ?_) | (with_reducible refine rd_mulR (by omega) (by omega) ?_) | (with_reducible refine rd_mulL (by omega) (by omega) ?_) | (with_reducible refine rd_pow (by decide) (by decide +kernel) ?_)
  | (with_reducible refine rd_xf ?_)
  | (with_reducible refine rd_raiseErr ?_) | (with_reducible refine rd_iList ?_)
  | (with_reducible refine ⟨_, rfl, ?_⟩))
local macro_rules | `(tactic| walk_at "rd1") => `(tactic| first | (with_reducible refine rd_seq ?_) | walk_at "rs1")
local macro_rules | `(tactic| walk_at "rs") => `(tactic| (repeat (walk_at "rs1")))
local macro_rules | `(tactic| walk_at "rd") => `(tactic| (repeat (walk_at "rd1")))

section
variable {P : Program} {w : World} {K : PySem.W.Frag} {mg : Str → Option Value} {base : Heap} {A : Nat → Addr} {D : Nat → FuncData}
/-! ### breaks -/
def pairOf (a : List Nat) (k : Nat) : List V := [.str (SX.S (a.take k)), .str (SX.S (a.drop (k + 1)))]
def IsPair (a : List Nat) (k : Nat) (y : V) (H : Hp) : Prop := ∃ q, y = .ref q ∧ H q = some (.tup (pairOf a k))
def sp_breaks (K : PySem.W.Frag) : Sp := fun vs H Q _ => ∃ a, vs = [.str (SX.S a)] ∧ a.length ≤ 60 ∧ ∀ p H' ys, Same H H' → H' p = some (.lst ys) → Paired (fun k y => IsPair a k y H') (blanks a) ys → Q (.ref p) H'
theorem ok_breaks (T : Txt P K mg A D) : FnOk P w K mg base CX0 1 (A 2) (D 2) ["text"] (sp_breaks K) := by
  refine T.F_breaks.ok sc_breaks (fun vs H Q E h => ?_) (fun cdv B outer s H vs Q E hr h => ?_)
  · obtain ⟨a, rfl, _⟩ := h
    rfl
  obtain ⟨a, rfl, hz, q⟩ := h
  refine ⟨_, (pss_one (ps_ret (pe_lc (own := [("k", 1)]) (g := gName 1) (by rfl) sc_breaks.nd (pi_range1 (by rfl) T.n_range (pa_cons (pe_callB cq_lenS (by rfl) T.n_len (by decide +kernel) (pa_cons (pv 0) pa_nil)) pa_nil)) (blkOk_by (N := N_breaks) (sc := defScope s_breaks) (own := [("k", 1)]) (by decide +kernel)) (fun _ _ _ _ _ => pg_name (i := 1) sc_breaks.nd rfl (Or.inl rfl)) (fun _ _ _ _ _ => (pts_one (pt_cmpR op_eq (pe_ix ix_str (pv 0) (pv 1) (fun _ _ => rfl)) pe_str (nomark _)))) (fun _ _ _ _ _ => (pe_tup (pa_cons (pe_slice sl_str (pv 0) po_none (po_some (pv 1))) (pa_cons (pe_slice sl_str (pv 0) (po_some (pe_op op_add (pv 1) pe_int)) po_none) pa_nil))))))), ?_⟩
  refine rd_start (σ := [some (.str (SX.S a)), none]) rfl ?_
  walk_at "rd"
  intro Dz hDz
  refine lcR (w := none) walk_range (bl a) (fun k y H => IsPair a k y H) trivial hDz (by omega) ?_ ?_ ?_ ?_ ?_ ?_ ?_
  · exact fun x => rfl
  · exact fun _ _ _ => trivial
  · rintro i y H2 H3 t ⟨p, rfl, hp⟩
    exact ⟨p, rfl, (t p _).1 hp⟩
  · exact fun i H x H' y => y.1
  · rintro i x H2 hi f k ⟨_, rfl⟩ Q' h
    walk_at "rd"
    refine rd_ixA (k := i) (by omega) (sz _ (by omega)) hi ?_
    walk_at "rd"
    have e : decide (V.str (SX.S [a[i]]) = V.str (Str.ofString " ")) = bl a i := by
      rw [show (V.str (Str.ofString " ")) = V.str (SX.S [32]) from rfl, S_one]
      unfold bl
      rw [List.getD_eq_getElem?_getD, List.getElem?_eq_getElem hi]
      rfl
    rw [e]
    exact h H2 (Fr.refl _ _) trivial
  · rintro i x H2 H3 hi hb f k ⟨_, rfl⟩ f3 k3 Q' h
    walk_at "rd"
    refine rd_to (k := i) (by omega) (sz _ (by omega)) ?_
    walk_at "rd"
    refine rd_from (k := i + 1) (by omega) (sz _ (by omega)) ?_
    walk_at "rd"
    refine ⟨sz _ (by simp), fun p hp => ?_⟩
    exact h _ _ (Fr.new (w := none) (H' := H3) trivial (Fr.refl none H3) hp) trivial ⟨p, rfl, upd_same⟩
  · intro H' ys f k hD hp
    exact q Dz H' ys f.same hD hp
/-! ### wider -/
def sp_wider (K : PySem.W.Frag) : Sp := fun vs H Q _ => ∃ p x y, vs = [.ref p] ∧ H p = some (.tup [.str (SX.S x), .str (SX.S y)]) ∧ x.length ≤ 1000 ∧ y.length ≤ 1000 ∧ Q (.int (max x.length y.length : Nat)) H
theorem ok_wider (T : Txt P K mg A D) : FnOk P w K mg base CX0 1 (A 3) (D 3) ["lines"] (sp_wider K) := by
  refine T.F_wider.ok sc_wider (fun vs H Q E h => ?_) (fun cdv B outer s H vs Q E hr h => ?_)
  · obtain ⟨p, x, y, rfl, _⟩ := h
    rfl
  obtain ⟨p, x, y, rfl, hp, hx, hy, q⟩ := h
  refine ⟨_, (pss_one (ps_ret (pe_callB (cq_max rfl) (by rfl) T.n_max (by decide +kernel) (pa_cons (pe_callB cq_lenS (by rfl) T.n_len (by decide +kernel) (pa_cons (pe_ix (ix_tupK (K := K) rfl) (pv 0) pe_int (fun _ _ => rfl)) pa_nil)) (pa_cons (pe_callB cq_lenS (by rfl) T.n_len (by decide +kernel) (pa_cons (pe_ix (ix_tupK (K := K) rfl) (pv 0) pe_int (fun _ _ => rfl)) pa_nil)) pa_nil))))), ?_⟩
  refine rd_start (σ := [some (.ref p)]) rfl ?_
  walk_at "rd"
  refine rd_ixT (sqT_of hp) rfl ?_
  walk_at "rd"
  refine rd_ixT (sqT_of hp) rfl ?_
  walk_at "rd"
  have e : (if (y.length : Int) > (x.length : Int) then (y.length : Int) else (x.length : Int)) = ((max x.length y.length : Nat) : Int) := by
    by_cases h : (y.length : Int) > (x.length : Int)
    · rw [if_pos h]
      omega
    · rw [if_neg h]
      omega
  rw [e]
  exact q

end
end K
namespace K
open PySem PySem.Spec PyProof.Rows L2
/-! one step of a reading; as many as go -/
local macro_rules | `(tactic| walk_at "rs1") => `(tactic| first
  | (with_reducible refine rd_next ?_) | (with_reducible refine rd_ret ?_) | (with_reducible refine rd_retN ?_) | (with_reducible refine rd_break ?_) | (with_reducible refine rd_cont ?_)
  | (with_reducible refine rd_drop ?_) | (with_reducible refine rd_asg ?_) | (with_reducible refine rd_gname ?_; dsimp only [List.set_cons_zero, List.set_cons_succ]) | (with_reducible refine rd_gsub ?_) | (with_reducible refine rd_if ?_)
  | (with_reducible refine rd_var (by with_unfolding_all exact rfl) ?_) | (with_reducible refine rd_c ?_) | (with_reducible refine rd_op ?_) | (with_reducible refine rd_un ?_) | (with_reducible refine rd_chain ?_)
  | (with_reducible refine rd_test ?_) | (with_reducible refine rd_tB ?_) | (with_reducible refine rd_not ?_) | (with_reducible refine rd_and ?_) | (with_reducible refine rd_or ?_)
  | (with_reducible refine rd_andV ?_) | (with_reducible refine rd_orV ?_) | (with_reducible refine rd_notV ?_) | (with_reducible refine rd_ifE ?_) | (with_reducible refine rd_yes ?_)
  | (with_reducible refine rd_cons ?_) | (with_reducible refine rd_nil ?_) | (with_reducible refine rd_cb ?_) | (with_reducible refine rd_call ?_) | (with_reducible refine rd_callS ?_)
  | (with_reducible refine rd_tup ?_) | (with_reducible refine rd_lst ?_) | (with_reducible refine rd_sl ?_) | (with_reducible refine rd_part ?_) | (with_reducible refine rd_nopart ?_)
  | (with_reducible refine rd_bm ?_) | (with_reducible refine rd_bm0 ?_) | (with_reducible refine rd_m0 ?_) | (with_reducible refine rd_m1 ?_) | (with_reducible refine rd_isS ?_)
  | (with_reducible refine rd_I0 ?_) | (with_reducible refine rd_U ?_) | (with_reducible refine rd_eq (by with_unfolding_all exact rfl) ?_) | (with_reducible refine rd_ne (by with_unfolding_all exact rfl) ?_)
  | (with_reducible refine rd_isN_non ?_) | (with_reducible refine rd_isN_int ?_) | (with_reducible refine rd_isN_str ?_) | (with_reducible refine rd_isN_ref ?_) | (with_reducible refine rd_isN_bl ?_)
  | (with_reducible refine rd_notN_non ?_) | (with_reducible refine rd_notN_int ?_) | (with_reducible refine rd_notN_str ?_) | (with_reducible refine rd_notN_ref ?_)
  | (with_reducible refine rd_abs ?_) | (with_reducible refine rd_max ?_) | (with_reducible refine rd_min ?_) | (with_reducible refine rd_int ?_) | (with_reducible refine rd_ord ?_)
  | (with_reducible refine rd_inS ?_) | (with_reducible refine rd_notinS ?_)
  | (with_reducible refine iteT ?_) | (with_reducible refine iteF ?_) | (with_reducible refine rd_nT ?_) | (with_reducible refine rd_nF ?_)
  | (with_reducible refine rd_for ?_) | (with_reducible refine rd_lc ?_) | (with_reducible refine rd_iStr ?_) | (with_reducible refine rd_rng1 ?_) | (with_reducible refine rd_rngN (by omega) ?_; rw [Int.toNat_natCast]) | (with_reducible refine rd_rngI (by omega) ?_) | (with_reducible refine rd_lenA (sz _ (by omega)) ?_)
  | (with_reducible refine rd_mod (by omega) ?_) | (with_reducible refine rd_div (by omega) (by omega) ?_) | (with_reducible refine rd_mulR (by omega) (by omega) ?_) | (with_reducible refine rd_mulL (by omega) (by omega) ?_) | (with_reducible refine rd_pow (by decide) (by decide +kernel) ?_)
  | (with_reducible refine rd_xf ?_)
  | (with_reducible refine rd_raiseErr ?_) | (with_reducible refine rd_iList ?_)
  | (with_reducible refine ⟨_, rfl, ?_⟩))
local macro_rules | `(tactic| walk_at "rd1") => `(tactic| first | (with_reducible refine rd_seq ?_) | walk_at "rs1")
local macro_rules | `(tactic| walk_at "rs") => `(tactic| (repeat (walk_at "rs1")))
local macro_rules | `(tactic| walk_at "rd") => `(tactic| (repeat (walk_at "rd1")))

section
variable {P : Program} {w : World} {K : PySem.W.Frag} {mg : Str → Option Value} {base : Heap} {A : Nat → Addr} {D : Nat → FuncData}
/-! ### two_lines -/
def bestV (a : List Nat) (b : Option Nat) (v : V) (H : Hp) : Prop := match b with
  | none => v = .non
  | some k => IsPair a k v H
def linesOk (K : PySem.W.Frag) (H : Hp) (Q : VK) (xs : List (List Nat)) : Prop := ∀ p H', Same H H' → H' p = some (.tup (xs.map fun x => V.str (SX.S x))) → Q (.ref p) H'
/-- an error of this class with this value -/
def errOk (H : Hp) (E : XK) (C : Addr) (f : Str) (v : V) : Prop := ∀ H' d, Same H H' → H' d = some (.xd [(f, v)]) → E (.ref C) (some d) H'
def sp_two_lines (K : PySem.W.Frag) (A : Nat → Addr) : Sp := fun vs H Q E => ∃ v d vw dw, vs = [v, vw] ∧ Dp K H v d ∧ Dp K H vw dw ∧ (∀ x, d = .str x → x.length ≤ 1000) ∧ match two d dw with
  | .badText => errOk H E (A 18) "at" (.int (-1))
  | .badWidth => errOk H E (A 20) "width" vw
  | .wide l => errOk H E (A 22) "least" (.int l)
  | .lines xs => linesOk K H Q xs
theorem ok_two_lines (T : Txt P K mg A D) : FnOk P w K mg base (L2.CX P w) 2 (A 4) (D 4) ["text", "width"] (sp_two_lines K A) := by
  refine T.F_two_lines.okX sc_two_lines (fun vs H Q E h => ?_) (fun cdv B outer s H vs Q E hr h => ?_)
  · obtain ⟨v, d, vw, dw, rfl, _⟩ := h
    rfl
  obtain ⟨v, d, vw, dw, rfl, hd, hw, hsz, q⟩ := h
  refine ⟨_, (pss_cons (ps_if (pt_not (pt_val (pe_call (ok_plain_text T) (hr.mono (by decide)) (by rfl) T.m_plain_text T.k_plain_text T.b_plain_text .nil pass0 (pa_cons (pv 0) pa_nil)))) (pss_one (ps_raiseErr T.e_BadText hr (takes_of rfl rfl rfl rfl) (pa_cons (pe_un un_neg pe_int) pa_nil))) pss_nil)
        (pss_cons (ps_if (pt_not (pt_val (pe_call (ok_is_integer T) (hr.mono (by decide)) (by rfl) T.m_is_integer T.k_is_integer T.b_is_integer .nil pass0 (pa_cons (pv 1) (pa_cons pe_int (pa_cons pe_int pa_nil)))))) (pss_one (ps_raiseErr T.e_BadWidth hr (takes_of rfl rfl rfl rfl) (pa_cons (pv 1) pa_nil))) pss_nil)
        (pss_cons (ps_if (pt_cmpR op_le (pe_callB cq_lenS (by rfl) T.n_len (by decide +kernel) (pa_cons (pv 0) pa_nil)) (pv 1) (nomark _)) (pss_one (ps_ret (pe_tup (pa_cons (pv 0) pa_nil)))) pss_nil)
        (pss_cons (ps_set (i := 2) sc_two_lines.nd rfl (Or.inl rfl) (pe_callB cq_lenS (by rfl) T.n_len (by decide +kernel) (pa_cons (pv 0) pa_nil)))
        (pss_cons (ps_set (i := 3) sc_two_lines.nd rfl (Or.inl rfl) pe_non)
        (pss_cons (ps_for (passes_of rfl) rfl (pi_list (pe_call (ok_breaks T) (hr.mono (by decide)) (by rfl) T.m_breaks T.k_breaks T.b_breaks .nil pass0 (pa_cons (pv 0) pa_nil))) (pg_name (i := 4) sc_two_lines.nd rfl (Or.inl rfl)) (pss_cons (ps_set (i := 2) sc_two_lines.nd rfl (Or.inl rfl) (pe_callB (cq_min rfl) (by rfl) T.n_min (by decide +kernel) (pa_cons (pv 2) (pa_cons (pe_call (ok_wider T) (hr.mono (by decide)) (by rfl) T.m_wider T.k_wider T.b_wider .nil pass0 (pa_cons (pv 4) pa_nil)) pa_nil))))
        (pss_one (ps_if (pt_cmpR op_le (pe_call (ok_wider T) (hr.mono (by decide)) (by rfl) T.m_wider T.k_wider T.b_wider .nil pass0 (pa_cons (pv 4) pa_nil)) (pv 1) (nomark _)) (pss_cons (ps_set (i := 5) sc_two_lines.nd rfl (Or.inl rfl) (pe_callB cq_abs (by rfl) T.n_abs (by decide +kernel) (pa_cons (pe_op op_sub (pe_callB cq_lenS (by rfl) T.n_len (by decide +kernel) (pa_cons (pe_ix (ix_tupK (K := K) rfl) (pv 4) pe_int (fun _ _ => rfl)) pa_nil)) (pe_callB cq_lenS (by rfl) T.n_len (by decide +kernel) (pa_cons (pe_ix (ix_tupK (K := K) rfl) (pv 4) pe_int (fun _ _ => rfl)) pa_nil))) pa_nil)))
        (pss_one (ps_if (PW.pt (pw_or (pt_cmpR oq_isN (pv 3) pe_non (nomark _)) (pw_or1 (pt_cmpR op_lt (pv 5) (pe_callB cq_abs (by rfl) T.n_abs (by decide +kernel) (pa_cons (pe_op op_sub (pe_callB cq_lenS (by rfl) T.n_len (by decide +kernel) (pa_cons (pe_ix (ix_tupK (K := K) rfl) (pv 3) pe_int (fun _ _ => rfl)) pa_nil)) (pe_callB cq_lenS (by rfl) T.n_len (by decide +kernel) (pa_cons (pe_ix (ix_tupK (K := K) rfl) (pv 3) pe_int (fun _ _ => rfl)) pa_nil))) pa_nil)) (nomark _))))) (pss_one (ps_set (i := 3) sc_two_lines.nd rfl (Or.inl rfl) (pv 4))) pss_nil))) pss_nil))))
        (pss_cons (ps_if (pt_cmpR oq_isN (pv 3) pe_non (nomark _)) (pss_one (ps_raiseErr T.e_TooWide hr (takes_of rfl rfl rfl rfl) (pa_cons (pv 2) pa_nil))) pss_nil)
        (pss_one (ps_ret (pv 3)))))))))), ?_⟩
  refine rd_start (σ := [some v, some vw, none, none, none, none]) rfl ?_
  walk_at "rd"
  refine ⟨v, d, rfl, hd, hsz, fun H1 e1 => ?_⟩
  walk_at "rd"
  cases hp : plainD d with
  | false =>
    walk_at "rd"
    intro p hpn
    have e2 : two d dw = .badText := by
      unfold two
      rw [if_pos hp]
    rw [e2] at q
    exact q _ p (e1.mut (e1.none hpn)) upd_same
  | true =>
    walk_at "rd"
    refine ⟨vw, dw, 1, 60, rfl, hw.mono e1, ?_⟩
    walk_at "rd"
    cases hi : isIn dw 1 60 with
    | false =>
      walk_at "rd"
      intro p hpn
      have e2 : two d dw = .badWidth := by
        unfold two
        rw [if_neg (by rw [hp]; decide), if_pos hi]
      rw [e2] at q
      exact q _ p (e1.mut (e1.none hpn)) upd_same
    | true =>
      cases hd with
      | int i => cases hp
      | bl b => cases hp
      | non => cases hp
      | lst _ _ => cases hp
      | tup _ _ => cases hp
      | str x =>
      cases hw with
      | str _ => cases hi
      | bl b => cases hi
      | non => cases hi
      | lst _ _ => cases hi
      | tup _ _ => cases hi
      | int W =>
      obtain ⟨a, rfl⟩ : ∃ a, x = SX.S a := ⟨x.cps.toList, (SX.S_tl x).symm⟩
      have hW : 1 ≤ W ∧ W ≤ 60 := by
        have : (decide (1 ≤ W) && decide (W ≤ 60)) = true := hi
        simpa using this
      obtain ⟨m, rfl⟩ : ∃ m : Nat, W = m := ⟨W.toNat, by omega⟩
      have hpl : plainL a = true := hp
      have e2 : two (.str (SX.S a)) (.int (m : Int)) = lay a m := two_lay hpl (by omega) (by omega)
      rw [e2] at q
      obtain ⟨hj, hok, hn, hz⟩ := jn_plain hpl
      walk_at "rd"
      refine ite2 (fun h1 => ?_) (fun h1 => ?_)
      · have h1 := of_decide_eq_true h1
        walk_at "rd"
        refine ⟨sz _ (by simp), fun p hpn => ?_⟩
        have e3 : lay a m = .lines [a] := by
          unfold lay
          rw [if_pos (by omega)]
        rw [e3] at q
        exact q p _ (e1.mut (e1.none hpn)) upd_same
      · have h1 := of_decide_eq_false (Bool.eq_false_iff.mpr h1)
        have e3 : lay a m = match bestOf a.length m (blanks a) with | none => .wide (Least a) | some k => .lines [a.take k, a.drop (k + 1)] := by
          unfold lay
          rw [if_neg (by omega)] <;> rfl
        rw [e3] at q
        walk_at "rd"
        refine ⟨a, rfl, hz, fun p H2 ys e2 hy hps => ?_⟩
        walk_at "rd"
        refine ⟨⟨ys, sqL_of hy⟩, ?_⟩
        have hlen : (blanks a).length = ys.length := hps.length
        refine forIt (walk_list (xs := ys)) (fun i σ H3 => ∃ o1 o2 bv, σ = [some (.str (SX.S a)), some (.int (m : Int)), some (.int (leastOf a.length ((blanks a).take i))), some bv, o1, o2] ∧ Same H2 H3 ∧ bestV a (bestOf a.length m ((blanks a).take i)) bv H3) ?_ ?_ ?_ ?_
        · exact ⟨none, none, .non, rfl, Same.refl _, rfl⟩
        · rintro i σ H3 _ ⟨o1, o2, bv, _, e3, _⟩
          exact sqL_of (e3 _ _ hy)
        · rintro i x σ H3 H4 hi ⟨o1, o2, bv, rfl, e3, hb⟩ ⟨rfl, hx⟩
          have hi2 : i < (blanks a).length := by omega
          have hk : (blanks a)[i]? = some (blanks a)[i] := List.getElem?_eq_getElem hi2
          generalize ek : (blanks a)[i] = k at hk
          obtain ⟨x', hx', r, rfl, hr2⟩ := paired_get hps hk
          have ex : x = .ref r := Option.some.inj (hx.symm.trans hx')
          subst ex
          have hr4 := e3 _ _ hr2
          obtain ⟨hkn, _⟩ := blank_lt (List.mem_of_getElem? hk)
          have l1 : (a.take k).length = k := by
            rw [List.length_take]
            omega
          have l2 : (a.drop (k + 1)).length = a.length - k - 1 := by
            rw [List.length_drop]
            omega
          have ew : max (a.take k).length (a.drop (k + 1)).length = wide a.length k := by
            rw [l1, l2]
            rfl
          rw [take_succ_snoc hk, least_snoc, best_snoc]
          generalize leastOf a.length ((blanks a).take i) = L
          have hbm : ∀ j, bestOf a.length m ((blanks a).take i) = some j → j < a.length := fun j hj => (blank_lt (List.mem_of_mem_take (best_mem hj))).1
          generalize bestOf a.length m ((blanks a).take i) = bb at hb hbm
          walk_at "rd"
          refine ⟨r, a.take k, a.drop (k + 1), rfl, hr4, by omega, by omega, ?_⟩
          rw [ew]
          walk_at "rd"
          have emin : (if ((wide a.length k : Nat) : Int) < (L : Int) then ((wide a.length k : Nat) : Int) else (L : Int)) = ((stepL a.length L k : Nat) : Int) := by
            unfold stepL
            by_cases h : ((wide a.length k : Nat) : Int) < (L : Int)
            · rw [if_pos h]
              omega
            · rw [if_neg h]
              omega
          rw [emin]
          refine ⟨r, a.take k, a.drop (k + 1), rfl, hr4, by omega, by omega, ?_⟩
          rw [ew]
          walk_at "rd"
          refine ite2 (fun h2 => ?_) (fun h2 => ?_)
          · have h2 := of_decide_eq_true h2
            walk_at "rd"
            refine rd_ixT (sqT_of hr4) rfl ?_
            walk_at "rd"
            refine rd_ixT (sqT_of hr4) rfl ?_
            walk_at "rd"
            rw [l1, l2]
            have ea : ∀ j : Nat, j < a.length → (if ((j : Int) - ((a.length - j - 1 : Nat) : Int)) < 0 then -((j : Int) - ((a.length - j - 1 : Nat) : Int)) else ((j : Int) - ((a.length - j - 1 : Nat) : Int))) = ((apart a.length j : Nat) : Int) := fun j hj => by
              unfold apart
              by_cases h : ((j : Int) - ((a.length - j - 1 : Nat) : Int)) < 0
              · rw [if_pos h]
                omega
              · rw [if_neg h]
                omega
            rw [ea k hkn]
            cases bb with
            | none =>
              have hb : bv = .non := hb
              subst hb
              walk_at "rd"
              refine ⟨some (.ref r), _, .ref r, rfl, e3, ?_⟩
              have e4 : stepB a.length m none k = some k := by
                unfold stepB
                rw [if_pos (show wide a.length k ≤ m by omega)]
              rw [e4]
              exact ⟨r, rfl, hr4⟩
            | some j =>
              obtain ⟨r2, rfl, hj2⟩ := hb
              have hjn := hbm j rfl
              have l3 : (a.take j).length = j := by
                rw [List.length_take]
                omega
              have l4 : (a.drop (j + 1)).length = a.length - j - 1 := by
                rw [List.length_drop]
                omega
              walk_at "rd"
              refine rd_ixT (sqT_of hj2) rfl ?_
              walk_at "rd"
              refine rd_ixT (sqT_of hj2) rfl ?_
              walk_at "rd"
              rw [l3, l4, ea j hjn]
              refine ite2 (fun h3 => ?_) (fun h3 => ?_)
              · have h3 := of_decide_eq_true h3
                walk_at "rd"
                refine ⟨some (.ref r), _, .ref r, rfl, e3, ?_⟩
                have e4 : stepB a.length m (some j) k = some k := by
                  unfold stepB
                  rw [if_pos (show wide a.length k ≤ m by omega)]
                  exact if_pos (by omega)
                rw [e4]
                exact ⟨r, rfl, hr4⟩
              · have h3 := of_decide_eq_false (Bool.eq_false_iff.mpr h3)
                walk_at "rd"
                refine ⟨some (.ref r), _, .ref r2, rfl, e3, ?_⟩
                have e4 : stepB a.length m (some j) k = some j := by
                  unfold stepB
                  rw [if_pos (show wide a.length k ≤ m by omega)]
                  exact if_neg (by omega)
                rw [e4]
                exact ⟨r2, rfl, hj2⟩
          · have h2 := of_decide_eq_false (Bool.eq_false_iff.mpr h2)
            walk_at "rd"
            refine ⟨some (.ref r), o2, bv, rfl, e3, ?_⟩
            have e4 : stepB a.length m bb k = bb := by
              unfold stepB
              rw [if_neg (by omega)]
            rw [e4]
            exact hb
        · rintro σ H3 ⟨o1, o2, bv, rfl, e3, hb⟩
          rw [← hlen, List.take_length] at hb ⊢
          walk_at "rd"
          cases hbb : bestOf a.length m (blanks a) with
          | none =>
            rw [hbb] at hb q
            have hb : bv = .non := hb
            subst hb
            walk_at "rd"
            intro p hpn
            exact q _ p ((e1.trans (e2.trans e3)).mut ((e1.trans (e2.trans e3)).none hpn)) upd_same
          | some k =>
            rw [hbb] at hb q
            obtain ⟨r, rfl, hr2⟩ := hb
            walk_at "rd"
            exact q r _ (e1.trans (e2.trans e3)) hr2

end
end K
namespace K
open PySem PySem.Spec PyProof.Rows L2
/-! one step of a reading; as many as go -/
local macro_rules | `(tactic| walk_at "rs1") => `(tactic| first
  | (with_reducible refine rd_next ?_) | (with_reducible refine rd_ret ?_) | (with_reducible refine rd_retN ?_) | (with_reducible refine rd_break ?_) | (with_reducible refine rd_cont ?_)
  | (with_reducible refine rd_drop ?_) | (with_reducible refine rd_asg ?_) | (with_reducible refine rd_gname ?_; dsimp only [List.set_cons_zero, List.set_cons_succ]) | (with_reducible refine rd_gsub ?_) | (with_reducible refine rd_if ?_)
  | (with_reducible refine rd_var (by with_unfolding_all exact rfl) ?_) | (with_reducible refine rd_c ?_) | (with_reducible refine rd_op ?_) | (with_reducible refine rd_un ?_) | (with_reducible refine rd_chain ?_)
  | (with_reducible refine rd_test ?_) | (with_reducible refine rd_tB ?_) | (with_reducible refine rd_not ?_) | (with_reducible refine rd_and ?_) | (with_reducible refine rd_or ?_)
  | (with_reducible refine rd_andV ?_) | (with_reducible refine rd_orV ?_) | (with_reducible refine rd_notV ?_) | (with_reducible refine rd_ifE ?_) | (with_reducible refine rd_yes ?_)
  | (with_reducible refine rd_cons ?_) | (with_reducible refine rd_nil ?_) | (with_reducible refine rd_cb ?_) | (with_reducible refine rd_call ?_) | (with_reducible refine rd_callS ?_)
  | (with_reducible refine rd_tup ?_) | (with_reducible refine rd_lst ?_) | (with_reducible refine rd_sl ?_) | (with_reducible refine rd_part ?_) | (with_reducible refine rd_nopart ?_)
  | (with_reducible refine rd_bm ?_) | (with_reducible refine rd_bm0 ?_) | (with_reducible refine rd_m0 ?_) | (with_reducible refine rd_m1 ?_) | (with_reducible refine rd_isS ?_)
  | (with_reducible refine rd_I0 ?_) | (with_reducible refine rd_U ?_) | (with_reducible refine rd_eq (by with_unfolding_all exact rfl) ?_) | (with_reducible refine rd_ne (by with_unfolding_all exact rfl) ?_)
  | (with_reducible refine rd_isN_non ?_) | (with_reducible refine rd_isN_int ?_) | (with_reducible refine rd_isN_str ?_) | (with_reducible refine rd_isN_ref ?_) | (with_reducible refine rd_isN_bl ?_)
  | (with_reducible refine rd_notN_non ?_) | (with_reducible refine rd_notN_int ?_) | (with_reducible refine rd_notN_str ?_) | (with_reducible refine rd_notN_ref ?_)
  | (with_reducible refine rd_abs ?_) | (with_reducible refine rd_max ?_) | (with_reducible refine rd_min ?_) | (with_reducible refine rd_int ?_) | (with_reducible refine rd_ord ?_)
  | (with_reducible refine rd_inS ?_) | (with_reducible refine rd_notinS ?_)
  | (with_reducible refine iteT ?_) | (with_reducible refine iteF ?_) | (with_reducible refine rd_nT ?_) | (with_reducible refine rd_nF ?_)
  | (with_reducible refine rd_for ?_) | (with_reducible refine rd_lc ?_) | (with_reducible refine rd_iStr ?_) | (with_reducible refine rd_rng1 ?_) | (with_reducible refine rd_rngN (by omega) ?_; rw [Int.toNat_natCast]) | (with_reducible refine rd_rngI (by omega) ?_) | (with_reducible refine rd_lenA (sz _ (by omega)) ?_)
  | (with_reducible refine rd_mod (by omega) ?_) | (with_reducible refine rd_div (by omega) (by omega) ?_) | (with_reducible refine rd_mulR (by omega) (by omega) ?_) | (with_reducible refine rd_mulL (by omega) (by omega) ?_) | (with_reducible refine rd_pow (by decide) (by decide +kernel) ?_)
  | (with_reducible refine rd_xf ?_)
  | (with_reducible refine rd_raiseErr ?_) | (with_reducible refine rd_iList ?_)
  | (with_reducible refine ⟨_, rfl, ?_⟩))
local macro_rules | `(tactic| walk_at "rd1") => `(tactic| first | (with_reducible refine rd_seq ?_) | walk_at "rs1")
local macro_rules | `(tactic| walk_at "rs") => `(tactic| (repeat (walk_at "rs1")))
local macro_rules | `(tactic| walk_at "rd") => `(tactic| (repeat (walk_at "rd1")))

section
variable {P : Program} {w : World} {K : PySem.W.Frag} {mg : Str → Option Value} {base : Heap} {A : Nat → Addr} {D : Nat → FuncData}
/-! ### the tape -/
theorem Tape.mk' {a c : Addr} {H H' : Hp} {cells : List Int} {p cur st ex : Int} (n : a ≠ c) (ha : H' a = some (.lst [.ref c, .int p, .int cur, .int st, .int ex])) (hc : H c = some (.lst (cells.map V.int))) (f : Fr (some (a, c)) H H') (hp : 0 ≤ p) (hcur : 0 ≤ cur) (hs : 0 ≤ st) (hs2 : st < 2147483647) (hx : ∀ x ∈ cells, 0 ≤ x) : Ok (some (a, c)) H' :=
  ⟨n, cells, p, cur, st, ex, ha, f c _ (fun e => n e.symm) hc, hp, hcur, hs, hs2, hx⟩
theorem Fr.self {w : Wd} {H H' : Hp} {a : Addr} {o : HO} (f : Fr w H H') (m : moved w a) : Fr w H (L2.upd H' a o) := fun b x n hb => by
  rw [upd_ne (fun e => n (by rw [e]; exact m))]
  exact f b x n hb
def sp_law_pick : Sp := fun vs H Q _ => ∃ a c many, vs = [.ref a, .int many] ∧ Ok (some (a, c)) H ∧ many < 1073741824 ∧ ∀ d H', 0 ≤ d → (d < many ∨ d = 0) → Fr (some (a, c)) H H' → Ok (some (a, c)) H' → Q (.int d) H'
theorem ok_law_pick (T : Txt P K mg A D) : FnOk P w K mg base CX0 1 (A 6) (D 6) ["_law_tape_here", "_law_many"] sp_law_pick := by
  refine T.F_law_pick.ok sc_law_pick (fun vs H Q E h => ?_) (fun cdv B outer s H vs Q E hr h => ?_)
  · obtain ⟨a, c, m, rfl, _⟩ := h
    rfl
  obtain ⟨a, c, m, rfl, ⟨hne, cells, p, cur, st, ex, ha, hc, hp, hcur, hs, hs2, hx⟩, hm, q⟩ := h
  change H a = _ at ha
  change H c = _ at hc
  change a ≠ c at hne
  refine ⟨_, (pss_cons (ps_if (PW.pt (pw_or (pt_not (pt_truth (pe_ix (ix_listK (K := K) rfl) (pv 0) pe_int (fun _ _ => rfl)) (by intro _; rfl))) (pw_or1 (pt_cmpR op_lt (pv 1) pe_int (nomark _))))) (pss_one (ps_ret pe_int)) pss_nil)
        (pss_cons (ps_if (PW.pt (pw_and (pt_cmpR op_eq (pe_ix (ix_listK (K := K) rfl) (pv 0) pe_int (fun _ _ => rfl)) pe_int (nomark _)) (pw_and1 (pt_cmpR op_lt (pe_ix (ix_listK (K := K) rfl) (pv 0) pe_int (fun _ _ => rfl)) (pe_callB cq_lenL (by rfl) T.n_len (by decide +kernel) (pa_cons (pe_ix (ix_listK (K := K) rfl) (pv 0) pe_int (fun _ _ => rfl)) pa_nil)) (nomark _))))) (pss_cons (ps_asg (pe_ix (ix_listK (K := K) rfl) (pe_ix (ix_listK (K := K) rfl) (pv 0) pe_int (fun _ _ => rfl)) (pe_ix (ix_listK (K := K) rfl) (pv 0) pe_int (fun _ _ => rfl)) (fun _ _ => rfl)) (pg_sub (pv 0) pe_int set_list))
        (pss_cons (ps_asg (pe_op op_add (pe_ix (ix_listK (K := K) rfl) (pv 0) pe_int (fun _ _ => rfl)) pe_int) (pg_sub (pv 0) pe_int set_list))
        (pss_one (ps_if (pt_cmpR op_lt (pe_ix (ix_listK (K := K) rfl) (pv 0) pe_int (fun _ _ => rfl)) (pe_op op_powB pe_int pe_int) (nomark _)) (pss_cons (ps_asg (pe_op op_mod (pe_callTy cq_int (by rfl) T.n_int (by decide +kernel) (pa_cons (pe_op op_add (pe_op op_add (pe_op op_mul (pe_ix (ix_listK (K := K) rfl) (pv 0) pe_int (fun _ _ => rfl)) pe_int) (pe_op op_mul (pe_ix (ix_listK (K := K) rfl) (pv 0) pe_int (fun _ _ => rfl)) pe_int)) pe_int) pa_nil)) pe_int) (pg_sub (pv 0) pe_int set_list))
        (pss_one (ps_asg pe_int (pg_sub (pv 0) pe_int set_list)))) pss_nil)))) pss_nil)
        (pss_cons (ps_if (pt_cmpR op_gt (pe_ix (ix_listK (K := K) rfl) (pv 0) pe_int (fun _ _ => rfl)) pe_int (nomark _)) (pss_cons (ps_set (i := 2) sc_law_pick.nd rfl (Or.inl rfl) (pe_op op_mod (pe_callTy cq_int (by rfl) T.n_int (by decide +kernel) (pa_cons (pe_ix (ix_listK (K := K) rfl) (pv 0) pe_int (fun _ _ => rfl)) pa_nil)) (pv 1)))
        (pss_cons (ps_asg (pe_op op_fdiv (pe_ix (ix_listK (K := K) rfl) (pv 0) pe_int (fun _ _ => rfl)) (pv 1)) (pg_sub (pv 0) pe_int set_list))
        (pss_one (ps_ret (pv 2))))) pss_nil)
        (pss_cons (ps_asg (pe_op op_add (pe_ix (ix_listK (K := K) rfl) (pv 0) pe_int (fun _ _ => rfl)) pe_int) (pg_sub (pv 0) pe_int set_list))
        (pss_cons (ps_asg (pe_op op_mod (pe_callTy cq_int (by rfl) T.n_int (by decide +kernel) (pa_cons (pe_op op_add (pe_op op_add (pe_op op_mul (pe_ix (ix_listK (K := K) rfl) (pv 0) pe_int (fun _ _ => rfl)) pe_int) (pe_op op_mul (pe_ix (ix_listK (K := K) rfl) (pv 0) pe_int (fun _ _ => rfl)) pe_int)) pe_int) pa_nil)) pe_int) (pg_sub (pv 0) pe_int set_list))
        (pss_cons (ps_set (i := 3) sc_law_pick.nd rfl (Or.inl rfl) (pe_op op_mod (pe_callTy cq_int (by rfl) T.n_int (by decide +kernel) (pa_cons (pe_op op_add (pe_op op_mul (pe_ix (ix_listK (K := K) rfl) (pv 0) pe_int (fun _ _ => rfl)) (pe_ix (ix_listK (K := K) rfl) (pv 0) pe_int (fun _ _ => rfl))) (pe_op op_mul (pe_ix (ix_listK (K := K) rfl) (pv 0) pe_int (fun _ _ => rfl)) pe_int)) pa_nil)) pe_int))
        (pss_cons (ps_set (i := 3) sc_law_pick.nd rfl (Or.inl rfl) (pe_op op_mod (pe_callTy cq_int (by rfl) T.n_int (by decide +kernel) (pa_cons (pe_op op_add (pe_op op_mul (pv 3) pe_int) (pe_ix (ix_listK (K := K) rfl) (pv 0) pe_int (fun _ _ => rfl))) pa_nil)) pe_int))
        (pss_one (ps_ret (pe_op op_mod (pe_callTy cq_int (by rfl) T.n_int (by decide +kernel) (pa_cons (pe_op op_fdiv (pv 3) pe_int) pa_nil)) (pv 1))))))))))), ?_⟩
  refine rd_start (σ := [some (.ref a), some (.int m), none, none]) rfl ?_
  have m0 : moved (some (a, c)) a := rfl
  have F0 := Fr.refl (some (a, c)) H
  have fin : ∀ d, 0 ≤ d → (d < m ∨ d = 0) → Q (.int d) H := fun d h1 h2 => q d H h1 h2 F0 (Tape.mk' hne ha hc F0 hp hcur hs hs2 hx)
  refine rd_seq ?_
  walk_at "rs"
  refine rd_ixL (sqL_of ha) rfl ?_
  refine rd_truL (sqL_of hc) ?_
  cases hem : (cells.map V.int).isEmpty with
  | true =>
    show if true = true then _ else _
    walk_at "rd"
    exact fin 0 (by omega) (.inr rfl)
  | false =>
  show if (!true) = true then _ else _
  walk_at "rs"
  refine ite2 (fun h1 => ?_) (fun h1 => ?_)
  · walk_at "rd"
    exact fin 0 (by omega) (.inr rfl)
  have h1 := of_decide_eq_false (Bool.eq_false_iff.mpr h1)
  walk_at "rs"
  clear fin
  refine rd_cut (fun σ' H' => σ' = [some (.ref a), some (.int m), none, none] ∧ Fr (some (a, c)) H H' ∧ ∃ p cur st : Int, H' a = some (.lst [.ref c, .int p, .int cur, .int st, .int ex]) ∧ 0 ≤ p ∧ 0 ≤ cur ∧ 0 ≤ st ∧ st < 2147483647) ?_ (fun nx hnx => ?_)
  · rintro _ H2 ⟨rfl, F2, p, cur, st, ha, hp, hcur, hs, hs2⟩
    have hc0 := hc
    have hc := F2 c _ (fun e => hne e.symm) hc
    refine rd_seq ?_
    walk_at "rs"
    refine rd_ixL (sqL_of ha) rfl ?_
    walk_at "rs"
    refine ite2 (fun h2 => ?_) (fun h2 => ?_)
    · have h2 := of_decide_eq_true h2
      walk_at "rd"
      refine rd_ixL (sqL_of ha) rfl ?_
      walk_at "rd"
      refine rd_ixL (sqL_of ha) rfl ?_
      walk_at "rd"
      refine rd_wr ha rfl (fun H3 e3 ha3 => ?_)
      walk_at "rd"
      have F3 := F2.wr e3
      exact q _ _ (Int.emod_nonneg _ (by omega)) (.inl (Int.emod_lt_of_pos _ (by omega))) F3 (Tape.mk' hne ha3 hc0 F3 hp (Int.ediv_nonneg hcur (by omega)) hs hs2 hx)
    · walk_at "rd"
      refine rd_ixL (sqL_of ha) rfl ?_
      walk_at "rd"
      refine rd_wr ha rfl (fun H3 e3 ha3 => ?_)
      have F3 := F2.wr e3
      walk_at "rd"
      refine rd_ixL (sqL_of ha3) rfl ?_
      walk_at "rd"
      refine rd_ixL (sqL_of ha3) rfl ?_
      walk_at "rd"
      refine rd_wr ha3 rfl (fun H4 e4 ha4 => ?_)
      have F4 := F3.wr e4
      walk_at "rd"
      refine rd_ixL (sqL_of ha4) rfl ?_
      walk_at "rd"
      refine rd_ixL (sqL_of ha4) rfl ?_
      walk_at "rd"
      refine rd_ixL (sqL_of ha4) rfl ?_
      walk_at "rd"
      refine rd_ixL (sqL_of ha4) rfl ?_
      walk_at "rd"
      have b3 := Int.emod_nonneg (st * 48271 + (ex + 1) * 40692 + 5) (show (2147483647 : Int) ≠ 0 by decide)
      have b4 := Int.emod_lt_of_pos (st * 48271 + (ex + 1) * 40692 + 5) (show (0 : Int) < 2147483647 by decide)
      exact q _ _ (Int.emod_nonneg _ (by omega)) (.inl (Int.emod_lt_of_pos _ (by omega))) F4 (Tape.mk' hne ha4 hc0 F4 hp hcur b3 b4 hx)
  · walk_at "rs"
    refine rd_ixL (sqL_of ha) rfl ?_
    walk_at "rs"
    refine ite2 (fun h2 => ?_) (fun h2 => ?_)
    · walk_at "rs"
      refine rd_ixL (sqL_of ha) rfl ?_
      walk_at "rs"
      refine rd_ixL (sqL_of ha) rfl ?_
      walk_at "rs"
      refine rd_lenL (sqL_of hc) ?_
      walk_at "rs"
      refine ite2 (fun h3 => ?_) (fun h3 => ?_)
      · have h3 := of_decide_eq_true h3
        rw [List.length_map] at h3
        obtain ⟨n, rfl⟩ : ∃ n : Nat, p = n := ⟨p.toNat, by omega⟩
        have hn : n < cells.length := by omega
        have hxn := hx cells[n] (List.getElem_mem hn)
        walk_at "rd"
        refine rd_ixL (sqL_of ha) rfl ?_
        walk_at "rd"
        refine rd_ixL (sqL_of ha) rfl ?_
        walk_at "rd"
        refine rd_ixL (v := .int cells[n]) (sqL_of hc) (by rw [at_nat (by rw [List.length_map]; exact hn), List.getElem_map]) ?_
        walk_at "rd"
        refine rd_wr ha rfl (fun H3 e3 ha3 => ?_)
        have F3 := F0.wr e3
        walk_at "rd"
        refine rd_ixL (sqL_of ha3) rfl ?_
        walk_at "rd"
        refine rd_wr ha3 rfl (fun H4 e4 ha4 => ?_)
        have F4 := F3.wr e4
        walk_at "rd"
        refine rd_ixL (sqL_of ha4) rfl ?_
        walk_at "rd"
        refine ite2 (fun h4 => ?_) (fun h4 => ?_)
        · have h4 : cells[n] < 10 ^ 18 := of_decide_eq_true h4
          walk_at "rd"
          refine rd_ixL (sqL_of ha4) rfl ?_
          walk_at "rd"
          refine rd_ixL (sqL_of ha4) rfl ?_
          walk_at "rd"
          refine rd_wr ha4 rfl (fun H5 e5 ha5 => ?_)
          have F5 := F4.wr e5
          walk_at "rd"
          refine rd_wr ha5 rfl (fun H6 e6 ha6 => ?_)
          have F6 := F5.wr e6
          have b3 := Int.emod_nonneg (st * 48271 + cells[n] * 69621 + 11) (show (2147483647 : Int) ≠ 0 by decide)
          have b4 := Int.emod_lt_of_pos (st * 48271 + cells[n] * 69621 + 11) (show (0 : Int) < 2147483647 by decide)
          exact hnx _ _ ⟨rfl, F6, _, _, _, ha6, by omega, by omega, b3, b4⟩
        · walk_at "rd"
          exact hnx _ _ ⟨rfl, F4, _, _, _, ha4, by omega, hxn, hs, hs2⟩
      · walk_at "rs"
        exact hnx _ _ ⟨rfl, F0, p, cur, st, ha, hp, hcur, hs, hs2⟩
    · walk_at "rs"
      exact hnx _ _ ⟨rfl, F0, p, cur, st, ha, hp, hcur, hs, hs2⟩
def sp_law_some : Sp := fun vs H Q _ => ∃ a c lo hi, vs = [.ref a, .int lo, .int hi] ∧ Ok (some (a, c)) H ∧ lo ≤ hi ∧ hi - lo < 1000000 ∧ ∀ d H', lo ≤ d → d ≤ hi → Fr (some (a, c)) H H' → Ok (some (a, c)) H' → Q (.int d) H'
theorem ok_law_some (T : Txt P K mg A D) : FnOk P w K mg base CX0 2 (A 7) (D 7) ["_law_tape_here", "_law_low", "_law_high"] sp_law_some := by
  refine T.F_law_some.ok sc_law_some (fun vs H Q E h => ?_) (fun cdv B outer s H vs Q E hr h => ?_)
  · obtain ⟨a, c, lo, hi, rfl, _⟩ := h
    rfl
  obtain ⟨a, c, lo, hi, rfl, k, h1, h2, q⟩ := h
  refine ⟨_, (pss_one (ps_ret (pe_op op_add (pv 1) (pe_call (ok_law_pick T) (hr.mono (by decide)) (by rfl) T.m_law_pick T.k_law_pick T.b_law_pick .nil pass0 (pa_cons (pv 0) (pa_cons (pe_op op_add (pe_op op_sub (pv 2) (pv 1)) pe_int) pa_nil)))))), ?_⟩
  refine rd_start (σ := [some (.ref a), some (.int lo), some (.int hi)]) rfl ?_
  walk_at "rd"
  refine ⟨a, c, _, rfl, k, by omega, fun d H1 d0 d1 f k1 => ?_⟩
  walk_at "rd"
  exact q _ _ (by omega) (by omega) f k1

end
end K
namespace K
open PySem PySem.Spec PyProof.Rows L2
/-! one step of a reading; as many as go -/
local macro_rules | `(tactic| walk_at "rs1") => `(tactic| first
  | (with_reducible refine rd_next ?_) | (with_reducible refine rd_ret ?_) | (with_reducible refine rd_retN ?_) | (with_reducible refine rd_break ?_) | (with_reducible refine rd_cont ?_)
  | (with_reducible refine rd_drop ?_) | (with_reducible refine rd_asg ?_) | (with_reducible refine rd_gname ?_; dsimp only [List.set_cons_zero, List.set_cons_succ]) | (with_reducible refine rd_gsub ?_) | (with_reducible refine rd_if ?_)
  | (with_reducible refine rd_var (by with_unfolding_all exact rfl) ?_) | (with_reducible refine rd_c ?_) | (with_reducible refine rd_op ?_) | (with_reducible refine rd_un ?_) | (with_reducible refine rd_chain ?_)
  | (with_reducible refine rd_test ?_) | (with_reducible refine rd_tB ?_) | (with_reducible refine rd_not ?_) | (with_reducible refine rd_and ?_) | (with_reducible refine rd_or ?_)
  | (with_reducible refine rd_andV ?_) | (with_reducible refine rd_orV ?_) | (with_reducible refine rd_notV ?_) | (with_reducible refine rd_ifE ?_) | (with_reducible refine rd_yes ?_)
  | (with_reducible refine rd_cons ?_) | (with_reducible refine rd_nil ?_) | (with_reducible refine rd_cb ?_) | (with_reducible refine rd_call ?_) | (with_reducible refine rd_callS ?_)
  | (with_reducible refine rd_tup ?_) | (with_reducible refine rd_lst ?_) | (with_reducible refine rd_sl ?_) | (with_reducible refine rd_part ?_) | (with_reducible refine rd_nopart ?_)
  | (with_reducible refine rd_bm ?_) | (with_reducible refine rd_bm0 ?_) | (with_reducible refine rd_m0 ?_) | (with_reducible refine rd_m1 ?_) | (with_reducible refine rd_isS ?_)
  | (with_reducible refine rd_I0 ?_) | (with_reducible refine rd_U ?_) | (with_reducible refine rd_eq (by with_unfolding_all exact rfl) ?_) | (with_reducible refine rd_ne (by with_unfolding_all exact rfl) ?_)
  | (with_reducible refine rd_isN_non ?_) | (with_reducible refine rd_isN_int ?_) | (with_reducible refine rd_isN_str ?_) | (with_reducible refine rd_isN_ref ?_) | (with_reducible refine rd_isN_bl ?_)
  | (with_reducible refine rd_notN_non ?_) | (with_reducible refine rd_notN_int ?_) | (with_reducible refine rd_notN_str ?_) | (with_reducible refine rd_notN_ref ?_)
  | (with_reducible refine rd_abs ?_) | (with_reducible refine rd_max ?_) | (with_reducible refine rd_min ?_) | (with_reducible refine rd_int ?_) | (with_reducible refine rd_ord ?_)
  | (with_reducible refine rd_inS ?_) | (with_reducible refine rd_notinS ?_)
  | (with_reducible refine iteT ?_) | (with_reducible refine iteF ?_) | (with_reducible refine rd_nT ?_) | (with_reducible refine rd_nF ?_)
  | (with_reducible refine rd_for ?_) | (with_reducible refine rd_lc ?_) | (with_reducible refine rd_iStr ?_) | (with_reducible refine rd_rng1 ?_) | (with_reducible refine rd_rngN (by omega) ?_; rw [Int.toNat_natCast]) | (with_reducible refine rd_rngI (by omega) ?_) | (with_reducible refine rd_lenA (sz _ (by omega)) ?_)
  | (with_reducible refine rd_mod (by omega) ?_) | (with_reducible refine rd_div (by omega) (by omega) ?_) | (with_reducible refine rd_mulR (by omega) (by omega) ?_) | (with_reducible refine rd_mulL (by omega) (by omega) ?_) | (with_reducible refine rd_pow (by decide) (by decide +kernel) ?_)
  | (with_reducible refine rd_xf ?_)
  | (with_reducible refine rd_raiseErr ?_) | (with_reducible refine rd_iList ?_)
  | (with_reducible refine ⟨_, rfl, ?_⟩))
local macro_rules | `(tactic| walk_at "rd1") => `(tactic| first | (with_reducible refine rd_seq ?_) | walk_at "rs1")
local macro_rules | `(tactic| walk_at "rs") => `(tactic| (repeat (walk_at "rs1")))
local macro_rules | `(tactic| walk_at "rd") => `(tactic| (repeat (walk_at "rd1")))

section
variable {P : Program} {w : World} {K : PySem.W.Frag} {mg : Str → Option Value} {base : Heap} {A : Nat → Addr} {D : Nat → FuncData}
/-! ### _law_tape -/
def cellOf (n : Int) : Int := (if n < 0 then -n else n) % ((10 ^ (Int.toNat 60)) ^ (Int.toNat 20))
def sp_law_tape (K : PySem.W.Frag) : Sp := fun vs H Q _ => ∃ (s : Addr) (ns : List Int), vs = [.ref s] ∧ SqL K H s (ns.map V.int) ∧ ns.length ≤ 1000 ∧ ∀ a c H', Same H H' → Ok (some (a, c)) H' → Q (.ref a) H'
theorem ok_law_tape (T : Txt P K mg A D) : FnOk P w K mg base CX0 1 (A 5) (D 5) ["_law_script"] (sp_law_tape K) := by
  refine T.F_law_tape.ok sc_law_tape (fun vs H Q E h => ?_) (fun cdv B outer s H vs Q E hr h => ?_)
  · obtain ⟨s, ns, rfl, _⟩ := h
    rfl
  obtain ⟨s', ns, rfl, hs, hl, q⟩ := h
  refine ⟨_, (pss_cons (ps_setLc (i := 1) (own := [("_law_cell", 2)]) (g := gName 2) (tt := tYes) (by rfl) sc_law_tape.nd rfl rfl (sw_true rfl rfl rfl (by decide +kernel)) (pi_list (pv 0)) (blkOk_by (N := N_law_tape) (sc := defScope s_law_tape) (own := [("_law_cell", 2)]) (by decide +kernel)) (fun _ _ _ _ _ => pg_name (i := 2) sc_law_tape.nd rfl (Or.inl rfl)) (fun _ _ _ _ _ => pts_nil) (fun _ _ _ _ _ => (pe_op op_mod (pe_callB cq_abs (by rfl) T.n_abs (by decide +kernel) (pa_cons (pe_callTy cq_int (by rfl) T.n_int (by decide +kernel) (pa_cons (pv 2) pa_nil)) pa_nil)) (pe_op op_powB (pe_op op_powB pe_int pe_int) pe_int))))
        (pss_one (ps_ret (pe_lst (pa_cons (pv 1) (pa_cons pe_int (pa_cons pe_int (pa_cons pe_int (pa_cons pe_int pa_nil))))))))), ?_⟩
  refine rd_start (σ := [some (.ref s'), none, none]) rfl ?_
  walk_at "rd"
  refine ⟨⟨_, hs⟩, fun Dz hDz => ?_⟩
  refine lcF (walk_list (xs := ns.map V.int)) (fun _ => true) (fun i => .int (cellOf (ns.getD i 0))) hDz ?_ ?_ ?_ ?_ ?_ ?_ ?_
  · rw [List.length_map]
    omega
  · exact fun x => rfl
  · exact fun H' e => e.seq hs
  · exact fun i H x H' y => y.1
  · exact fun i x H2 hi e y Q' h => h
  · intro i x H2 hi _ e y Q' h
    obtain ⟨_, hx⟩ := y
    rw [List.length_map] at hi
    rw [List.getElem?_map, List.getElem?_eq_getElem hi] at hx
    have ex : x = .int ns[i] := (Option.some.inj hx).symm
    subst ex
    have eg : ns.getD i 0 = ns[i] := by rw [List.getD_eq_getElem?_getD, List.getElem?_eq_getElem hi]; rfl
    rw [eg] at h
    walk_at "rd"
    exact rd_mod (Int.pow_pos (Int.pow_pos (by decide))) h
  · intro H' e hD
    rw [kept_all, List.length_map, range_map ns (fun n => V.int (cellOf n)) _ (fun i hi => by rw [List.getD_eq_getElem?_getD, List.getElem?_eq_getElem hi]; rfl)] at hD
    walk_at "rd"
    refine ⟨sz _ (by simp), fun p hp => ?_⟩
    refine q p Dz _ (e.mut (e.none hp)) ⟨fun ee => ?_, ns.map cellOf, 0, 0, 7, 0, upd_same, ?_, by omega, by omega, by omega, by omega, ?_⟩
    · have ee : p = Dz := ee
      rw [ee, hD] at hp
      cases hp
    · show L2.upd H' p _ Dz = _
      rw [upd_ne (fun ee => by rw [← ee, hD] at hp; cases hp), hD, List.map_map]
      rfl
    · intro x hx
      rw [List.mem_map] at hx
      obtain ⟨n, _, rfl⟩ := hx
      exact Int.emod_nonneg _ (Int.ne_of_gt (Int.pow_pos (Int.pow_pos (by decide))))
/-! ### _law_least -/
def sp_law_least : Sp := fun vs H Q _ => ∃ a, vs = [.str (SX.S a)] ∧ a.length ≤ 60 ∧ Q (.int (Least a)) H
theorem kept_snoc_yes {a : List Nat} {i : Nat} (h : bl a i = true) : kept (i + 1) (bl a) = kept i (bl a) ++ [i] := kept_yes h
theorem blank_at {a : List Nat} {i : Nat} (hi : i < a.length) : decide (V.str (SX.S [a[i]]) = V.str (Str.ofString " ")) = bl a i := by
  rw [show (V.str (Str.ofString " ")) = V.str (SX.S [32]) from rfl, S_one]
  unfold bl
  rw [List.getD_eq_getElem?_getD, List.getElem?_eq_getElem hi]
  rfl
theorem max_wide {n k : Nat} (h : k < n) : (if (n : Int) - k - 1 > (k : Int) then (n : Int) - k - 1 else (k : Int)) = ((wide n k : Nat) : Int) := by
  unfold wide
  by_cases h : (n : Int) - k - 1 > (k : Int)
  · rw [if_pos h]
    omega
  · rw [if_neg h]
    omega
theorem min_step {n L k : Nat} : (if ((wide n k : Nat) : Int) < (L : Int) then ((wide n k : Nat) : Int) else (L : Int)) = ((stepL n L k : Nat) : Int) := by
  unfold stepL
  by_cases h : ((wide n k : Nat) : Int) < (L : Int)
  · rw [if_pos h]
    omega
  · rw [if_neg h]
    omega
theorem ok_law_least (T : Txt P K mg A D) : FnOk P w K mg base CX0 1 (A 11) (D 11) ["_law_text_here"] sp_law_least := by
  refine T.F_law_least.ok sc_law_least (fun vs H Q E h => ?_) (fun cdv B outer s H vs Q E hr h => ?_)
  · obtain ⟨a, rfl, _⟩ := h
    rfl
  obtain ⟨a, rfl, hz, q⟩ := h
  refine ⟨_, (pss_cons (ps_set (i := 1) sc_law_least.nd rfl (Or.inl rfl) (pe_callB cq_lenS (by rfl) T.n_len (by decide +kernel) (pa_cons (pv 0) pa_nil)))
        (pss_cons (ps_for PassesOwn.never rfl (pi_range1 (by rfl) T.n_range (pa_cons (pe_callB cq_lenS (by rfl) T.n_len (by decide +kernel) (pa_cons (pv 0) pa_nil)) pa_nil)) (pg_name (i := 2) sc_law_least.nd rfl (Or.inl rfl)) (pss_one (ps_if (pt_cmpR op_eq (pe_ix ix_str (pv 0) (pv 2) (fun _ _ => rfl)) pe_str (nomark _)) (pss_one (ps_set (i := 1) sc_law_least.nd rfl (Or.inl rfl) (pe_callB (cq_min rfl) (by rfl) T.n_min (by decide +kernel) (pa_cons (pv 1) (pa_cons (pe_callB (cq_max rfl) (by rfl) T.n_max (by decide +kernel) (pa_cons (pv 2) (pa_cons (pe_op op_sub (pe_op op_sub (pe_callB cq_lenS (by rfl) T.n_len (by decide +kernel) (pa_cons (pv 0) pa_nil)) (pv 2)) pe_int) pa_nil))) pa_nil))))) pss_nil)))
        (pss_one (ps_ret (pv 1))))), ?_⟩
  refine rd_start (σ := [some (.str (SX.S a)), none, none]) rfl ?_
  walk_at "rd"
  refine forIt walk_range (fun i σ H' => H' = H ∧ ∃ o, σ = [some (.str (SX.S a)), some (.int (leastOf a.length (kept i (bl a)))), o]) ⟨rfl, none, rfl⟩ (fun _ _ _ _ _ => trivial) ?_ ?_
  · rintro i x σ H2 H3 hi ⟨rfl, o, rfl⟩ ⟨rfl, rfl⟩
    walk_at "rd"
    refine rd_ixA (k := i) (by omega) (sz _ (by omega)) hi ?_
    walk_at "rd"
    rw [blank_at hi]
    cases hb : bl a i with
    | false =>
      walk_at "rd"
      rw [kept_no hb]
      exact ⟨rfl, _, rfl⟩
    | true =>
      walk_at "rd"
      rw [kept_yes hb, least_snoc, Int.zero_add, max_wide hi, min_step]
      exact ⟨rfl, _, rfl⟩
  · rintro σ H2 ⟨rfl, o, rfl⟩
    walk_at "rd"
    exact q

end
end K
namespace K
open PySem PySem.Spec PyProof.Rows L2
/-! one step of a reading; as many as go -/
local macro_rules | `(tactic| walk_at "rs1") => `(tactic| first
  | (with_reducible refine rd_next ?_) | (with_reducible refine rd_ret ?_) | (with_reducible refine rd_retN ?_) | (with_reducible refine rd_break ?_) | (with_reducible refine rd_cont ?_)
  | (with_reducible refine rd_drop ?_) | (with_reducible refine rd_asg ?_) | (with_reducible refine rd_gname ?_; dsimp only [List.set_cons_zero, List.set_cons_succ]) | (with_reducible refine rd_gsub ?_) | (with_reducible refine rd_if ?_)
  | (with_reducible refine rd_var (by with_unfolding_all exact rfl) ?_) | (with_reducible refine rd_c ?_) | (with_reducible refine rd_op ?_) | (with_reducible refine rd_un ?_) | (with_reducible refine rd_chain ?_)
  | (with_reducible refine rd_test ?_) | (with_reducible refine rd_tB ?_) | (with_reducible refine rd_not ?_) | (with_reducible refine rd_and ?_) | (with_reducible refine rd_or ?_)
  | (with_reducible refine rd_andV ?_) | (with_reducible refine rd_orV ?_) | (with_reducible refine rd_notV ?_) | (with_reducible refine rd_ifE ?_) | (with_reducible refine rd_yes ?_)
  | (with_reducible refine rd_cons ?_) | (with_reducible refine rd_nil ?_) | (with_reducible refine rd_cb ?_) | (with_reducible refine rd_call ?_) | (with_reducible refine rd_callS ?_)
  | (with_reducible refine rd_tup ?_) | (with_reducible refine rd_lst ?_) | (with_reducible refine rd_sl ?_) | (with_reducible refine rd_part ?_) | (with_reducible refine rd_nopart ?_)
  | (with_reducible refine rd_bm ?_) | (with_reducible refine rd_bm0 ?_) | (with_reducible refine rd_m0 ?_) | (with_reducible refine rd_m1 ?_) | (with_reducible refine rd_isS ?_)
  | (with_reducible refine rd_I0 ?_) | (with_reducible refine rd_U ?_) | (with_reducible refine rd_eq (by with_unfolding_all exact rfl) ?_) | (with_reducible refine rd_ne (by with_unfolding_all exact rfl) ?_)
  | (with_reducible refine rd_isN_non ?_) | (with_reducible refine rd_isN_int ?_) | (with_reducible refine rd_isN_str ?_) | (with_reducible refine rd_isN_ref ?_) | (with_reducible refine rd_isN_bl ?_)
  | (with_reducible refine rd_notN_non ?_) | (with_reducible refine rd_notN_int ?_) | (with_reducible refine rd_notN_str ?_) | (with_reducible refine rd_notN_ref ?_)
  | (with_reducible refine rd_abs ?_) | (with_reducible refine rd_max ?_) | (with_reducible refine rd_min ?_) | (with_reducible refine rd_int ?_) | (with_reducible refine rd_ord ?_)
  | (with_reducible refine rd_inS ?_) | (with_reducible refine rd_notinS ?_)
  | (with_reducible refine iteT ?_) | (with_reducible refine iteF ?_) | (with_reducible refine rd_nT ?_) | (with_reducible refine rd_nF ?_)
  | (with_reducible refine rd_for ?_) | (with_reducible refine rd_lc ?_) | (with_reducible refine rd_iStr ?_) | (with_reducible refine rd_rng1 ?_) | (with_reducible refine rd_rngN (by omega) ?_; rw [Int.toNat_natCast]) | (with_reducible refine rd_rngI (by omega) ?_) | (with_reducible refine rd_lenA (sz _ (by omega)) ?_)
  | (with_reducible refine rd_mod (by omega) ?_) | (with_reducible refine rd_div (by omega) (by omega) ?_) | (with_reducible refine rd_mulR (by omega) (by omega) ?_) | (with_reducible refine rd_mulL (by omega) (by omega) ?_) | (with_reducible refine rd_pow (by decide) (by decide +kernel) ?_)
  | (with_reducible refine rd_xf ?_)
  | (with_reducible refine rd_raiseErr ?_) | (with_reducible refine rd_iList ?_)
  | (with_reducible refine ⟨_, rfl, ?_⟩))
local macro_rules | `(tactic| walk_at "rd1") => `(tactic| first | (with_reducible refine rd_seq ?_) | walk_at "rs1")
local macro_rules | `(tactic| walk_at "rs") => `(tactic| (repeat (walk_at "rs1")))
local macro_rules | `(tactic| walk_at "rd") => `(tactic| (repeat (walk_at "rd1")))

section
variable {P : Program} {w : World} {K : PySem.W.Frag} {mg : Str → Option Value} {base : Heap} {A : Nat → Addr} {D : Nat → FuncData}
/-! ### _law_width -/
theorem at_ints {zs : List Int} {d : Int} (h0 : 0 ≤ d) (h1 : d < zs.length) : ∃ z, atI (zs.map V.int) d = some (.int z) := by
  obtain ⟨n, rfl⟩ : ∃ n : Nat, d = n := ⟨d.toNat, by omega⟩
  have hn : n < zs.length := by omega
  exact ⟨zs[n], by rw [at_nat (by rw [List.length_map]; exact hn), List.getElem_map]⟩
theorem clamp (z : Int) : ∃ m : Nat, (if (if z > 1 then z else 1) < 60 then (if z > 1 then z else 1) else 60) = (m : Int) ∧ 1 ≤ m ∧ m ≤ 60 := by
  by_cases h1 : z > 1
  · rw [if_pos h1]
    by_cases h2 : z < 60
    · rw [if_pos h2]
      exact ⟨z.toNat, by omega, by omega, by omega⟩
    · rw [if_neg h2]
      exact ⟨60, rfl, by omega, by omega⟩
  · rw [if_neg h1]
    exact ⟨1, rfl, by omega, by omega⟩
def sp_law_width : Sp := fun vs H Q _ => ∃ a c x, vs = [.ref a, .str (SX.S x)] ∧ x.length ≤ 60 ∧ Ok (some (a, c)) H ∧ ∀ (m : Nat) H', 1 ≤ m → m ≤ 60 → Fr (some (a, c)) H H' → Ok (some (a, c)) H' → Q (.int m) H'
theorem ok_law_width (T : Txt P K mg A D) : FnOk P w K mg base CX0 3 (A 12) (D 12) ["_law_tape_here", "_law_text_here"] sp_law_width := by
  refine T.F_law_width.ok sc_law_width (fun vs H Q E h => ?_) (fun cdv B outer s H vs Q E hr h => ?_)
  · obtain ⟨a, c, x, rfl, _⟩ := h
    rfl
  obtain ⟨a, c, x, rfl, hz, k, q⟩ := h
  refine ⟨_, (pss_cons (ps_set (i := 2) sc_law_width.nd rfl (Or.inl rfl) (pe_call (ok_law_least T) (hr.mono (by decide)) (by rfl) T.m_law_least T.k_law_least T.b_law_least .nil pass0 (pa_cons (pv 1) pa_nil)))
        (pss_cons (ps_set (i := 3) sc_law_width.nd rfl (Or.inl rfl) (pe_call (ok_law_pick T) (hr.mono (by decide)) (by rfl) T.m_law_pick T.k_law_pick T.b_law_pick .nil pass0 (pa_cons (pv 0) (pa_cons pe_int pa_nil))))
        (pss_cons (ps_set (i := 4) sc_law_width.nd rfl (Or.inl rfl) (pe_call (ok_law_some T) (hr.mono (by decide)) (by rfl) T.m_law_some T.k_law_some T.b_law_some .nil pass0 (pa_cons (pv 0) (pa_cons pe_int (pa_cons pe_int pa_nil)))))
        (pss_cons (ps_set (i := 5) sc_law_width.nd rfl (Or.inl rfl) (pe_ix (ix_listK (K := K) rfl) (pe_lst (pa_cons (pv 4) (pa_cons (pv 4) (pa_cons (pv 2) (pa_cons (pe_op op_sub (pv 2) pe_int) (pa_cons (pe_callB cq_lenS (by rfl) T.n_len (by decide +kernel) (pa_cons (pv 1) pa_nil)) (pa_cons (pe_op op_sub (pe_callB cq_lenS (by rfl) T.n_len (by decide +kernel) (pa_cons (pv 1) pa_nil)) pe_int) (pa_cons pe_int (pa_cons pe_int pa_nil))))))))) (pv 3) (fun _ _ => rfl)))
        (pss_one (ps_ret (pe_callB (cq_min rfl) (by rfl) T.n_min (by decide +kernel) (pa_cons pe_int (pa_cons (pe_callB (cq_max rfl) (by rfl) T.n_max (by decide +kernel) (pa_cons pe_int (pa_cons (pv 5) pa_nil))) pa_nil))))))))), ?_⟩
  refine rd_start (σ := [some (.ref a), some (.str (SX.S x)), none, none, none, none]) rfl ?_
  walk_at "rd"
  refine ⟨x, rfl, hz, ?_⟩
  walk_at "rd"
  refine ⟨a, c, 8, rfl, k, by omega, fun d H1 d0 d1 f1 k1 => ?_⟩
  walk_at "rd"
  refine ⟨a, c, 1, 60, rfl, k1, by omega, by omega, fun any H2 a0 a1 f2 k2 => ?_⟩
  walk_at "rd"
  refine ⟨sz _ (by simp), fun p hp => ?_⟩
  walk_at "rd"
  obtain ⟨z, ez⟩ := at_ints (zs := [any, any, (Least x : Int), (Least x : Int) - 1, (x.length : Int), (x.length : Int) - 1, 1, 60]) (d := d) d0 (by show d < (8 : Int); omega)
  refine rd_ixL (sqL_of upd_same) ez ?_
  walk_at "rd"
  obtain ⟨m, em, m1, m2⟩ := clamp z
  rw [em]
  exact q m _ m1 m2 ((f1.trans f2).new k2 hp) (k2.new hp)
/-! ### _law_due -/
def sp_law_due (K : PySem.W.Frag) : Sp := fun vs H Q _ => ∃ x, ∃ W : Nat, vs = [.str (SX.S x), .int W] ∧ x.length ≤ 60 ∧ ∀ v H', Same H H' → Dp K H' v (told (.int W) (lay x W)) → Q v H'
def dueV (n : Nat) (b : Option Nat) (v : V) (H : Hp) : Prop := match b with
  | none => v = .non
  | some k => ∃ q, v = .ref q ∧ H q = some (.tup [.int (apart n k : Nat), .int k])
theorem abs_apart {n k : Nat} (h : k < n) : (if ((k : Int) - ((n : Int) - k - 1)) < 0 then -((k : Int) - ((n : Int) - k - 1)) else ((k : Int) - ((n : Int) - k - 1))) = ((apart n k : Nat) : Int) := by
  unfold apart
  by_cases h2 : ((k : Int) - ((n : Int) - k - 1)) < 0
  · rw [if_pos h2]
    omega
  · rw [if_neg h2]
    omega
theorem ok_law_due (T : Txt P K mg A D) : FnOk P w K mg base CX0 2 (A 13) (D 13) ["_law_text_here", "_law_width_here"] (sp_law_due K) := by
  refine T.F_law_due.ok sc_law_due (fun vs H Q E h => ?_) (fun cdv B outer s H vs Q E hr h => ?_)
  · obtain ⟨x, W, rfl, _⟩ := h
    rfl
  obtain ⟨x, W, rfl, hz, q⟩ := h
  refine ⟨_, (pss_cons (ps_if (pt_cmpR op_le (pe_callB cq_lenS (by rfl) T.n_len (by decide +kernel) (pa_cons (pv 0) pa_nil)) (pv 1) (nomark _)) (pss_one (ps_ret (pe_tup (pa_cons pe_str (pa_cons (pe_tup (pa_cons (pv 0) pa_nil)) pa_nil))))) pss_nil)
        (pss_cons (ps_set (i := 2) sc_law_due.nd rfl (Or.inl rfl) pe_non)
        (pss_cons (ps_for PassesOwn.never rfl (pi_range1 (by rfl) T.n_range (pa_cons (pe_callB cq_lenS (by rfl) T.n_len (by decide +kernel) (pa_cons (pv 0) pa_nil)) pa_nil)) (pg_name (i := 3) sc_law_due.nd rfl (Or.inl rfl)) (pss_cons (ps_set (i := 4) sc_law_due.nd rfl (Or.inl rfl) (pe_op op_sub (pe_op op_sub (pe_callB cq_lenS (by rfl) T.n_len (by decide +kernel) (pa_cons (pv 0) pa_nil)) (pv 3)) pe_int))
        (pss_one (ps_if (PW.pt (pw_and (pt_cmpR op_eq (pe_ix ix_str (pv 0) (pv 3) (fun _ _ => rfl)) pe_str (nomark _)) (pw_and (pt_cmpR op_le (pv 3) (pv 1) (nomark _)) (pw_and1 (pt_cmpR op_le (pv 4) (pv 1) (nomark _)))))) (pss_one (ps_if (PW.pt (pw_or (pt_cmpR oq_isN (pv 2) pe_non (nomark _)) (pw_or1 (pt_cmpR op_lt (pe_callB cq_abs (by rfl) T.n_abs (by decide +kernel) (pa_cons (pe_op op_sub (pv 3) (pv 4)) pa_nil)) (pe_ix (ix_tupK (K := K) rfl) (pv 2) pe_int (fun _ _ => rfl)) (nomark _))))) (pss_one (ps_set (i := 2) sc_law_due.nd rfl (Or.inl rfl) (pe_tup (pa_cons (pe_callB cq_abs (by rfl) T.n_abs (by decide +kernel) (pa_cons (pe_op op_sub (pv 3) (pv 4)) pa_nil)) (pa_cons (pv 3) pa_nil))))) pss_nil)) pss_nil))))
        (pss_cons (ps_if (pt_cmpR oq_isN (pv 2) pe_non (nomark _)) (pss_one (ps_ret (pe_tup (pa_cons pe_str (pa_cons (pe_call (ok_law_least T) (hr.mono (by decide)) (by rfl) T.m_law_least T.k_law_least T.b_law_least .nil pass0 (pa_cons (pv 0) pa_nil)) (pa_cons pe_bl pa_nil)))))) pss_nil)
        (pss_one (ps_ret (pe_tup (pa_cons pe_str (pa_cons (pe_tup (pa_cons (pe_slice sl_str (pv 0) po_none (po_some (pe_ix (ix_tupK (K := K) rfl) (pv 2) pe_int (fun _ _ => rfl)))) (pa_cons (pe_slice sl_str (pv 0) (po_some (pe_op op_add (pe_ix (ix_tupK (K := K) rfl) (pv 2) pe_int (fun _ _ => rfl)) pe_int)) po_none) pa_nil))) pa_nil))))))))), ?_⟩
  refine rd_start (σ := [some (.str (SX.S x)), some (.int W), none, none, none]) rfl ?_
  walk_at "rd"
  refine ite2 (fun h1 => ?_) (fun h1 => ?_)
  · have h1 := of_decide_eq_true h1
    have e3 : lay x W = .lines [x] := by
      unfold lay
      rw [if_pos (by omega)]
    rw [e3] at q
    walk_at "rd"
    refine ⟨sz _ (by simp), fun p hp => ?_⟩
    walk_at "rd"
    refine ⟨sz _ (by simp), fun p2 hp2 => ?_⟩
    have e1 := Same.upd (o := .tup [V.str (SX.S x)]) hp
    refine q _ _ (e1.mut (e1.none hp2)) (.tup (sqT_of upd_same) (.cons (.str _) (.cons (.tup (sqT_of ?_) (.cons (.str _) .nil)) .nil)))
    rw [upd_ne (ne_of_none upd_same hp2)]
    exact upd_same
  · have h1 := of_decide_eq_false (Bool.eq_false_iff.mpr h1)
    have e3 : lay x W = match bestOf x.length W (blanks x) with | none => .wide (Least x) | some k => .lines [x.take k, x.drop (k + 1)] := by
      unfold lay
      rw [if_neg (by omega)] <;> rfl
    rw [e3] at q
    walk_at "rd"
    refine forIt walk_range (fun i σ H' => Same H H' ∧ ∃ bv o1 o2, σ = [some (.str (SX.S x)), some (.int W), some bv, o1, o2] ∧ dueV x.length (bestOf x.length W (kept i (bl x))) bv H') ⟨Same.refl _, .non, none, none, rfl, rfl⟩ (fun _ _ _ _ _ => trivial) ?_ ?_
    · rintro i y σ H2 H3 hi ⟨e2, bv, o1, o2, rfl, hb⟩ ⟨rfl, rfl⟩
      have hbm : ∀ j, bestOf x.length W (kept i (bl x)) = some j → j < x.length := fun j hj => by
        have := best_mem hj
        unfold kept at this
        rw [List.mem_filter, List.mem_range] at this
        omega
      walk_at "rd"
      refine rd_ixA (k := i) (by omega) (sz _ (by omega)) hi ?_
      walk_at "rd"
      rw [blank_at hi, Int.zero_add]
      cases hbl : bl x i with
      | false =>
        walk_at "rd"
        rw [kept_no hbl]
        exact ⟨e2, bv, _, _, rfl, hb⟩
      | true =>
        rw [kept_yes hbl, best_snoc]
        generalize bestOf x.length W (kept i (bl x)) = bb at hb hbm
        walk_at "rd"
        refine ite2 (fun h2 => ?_) (fun h2 => ?_)
        rotate_left
        · have h2 := of_decide_eq_false (Bool.eq_false_iff.mpr h2)
          have e4 : stepB x.length W bb i = bb := by
            unfold stepB
            rw [if_neg (by unfold wide; omega)]
          rw [e4]
          walk_at "rd"
          exact ⟨e2, bv, _, _, rfl, hb⟩
        have h2 := of_decide_eq_true h2
        walk_at "rd"
        refine ite2 (fun h3 => ?_) (fun h3 => ?_)
        rotate_left
        · have h3 := of_decide_eq_false (Bool.eq_false_iff.mpr h3)
          have e4 : stepB x.length W bb i = bb := by
            unfold stepB
            rw [if_neg (by unfold wide; omega)]
          rw [e4]
          walk_at "rd"
          exact ⟨e2, bv, _, _, rfl, hb⟩
        have h3 := of_decide_eq_true h3
        have hw : wide x.length i ≤ W := by
          unfold wide
          omega
        walk_at "rd"
        have aa := abs_apart hi
        cases bb with
        | none =>
          have hb : bv = .non := hb
          subst hb
          walk_at "rd"
          refine ⟨sz _ (by simp), fun p hp => ?_⟩
          have e4 : stepB x.length W none i = some i := by
            unfold stepB
            rw [if_pos hw]
          rw [e4]
          walk_at "rd"
          exact ⟨e2.mut (e2.none hp), _, _, _, rfl, p, rfl, by rw [← aa]; exact upd_same⟩
        | some j =>
          obtain ⟨r, rfl, hr2⟩ := hb
          have hjn := hbm j rfl
          walk_at "rd"
          refine rd_ixT (sqT_of hr2) rfl ?_
          walk_at "rd"
          rw [aa]
          refine ite2 (fun h4 => ?_) (fun h4 => ?_)
          · have h4 := of_decide_eq_true h4
            have e4 : stepB x.length W (some j) i = some i := by
              unfold stepB
              rw [if_pos hw]
              exact if_pos (by omega)
            rw [e4]
            walk_at "rd"
            refine ⟨sz _ (by simp), fun p hp => ?_⟩
            walk_at "rd"
            exact ⟨e2.mut (e2.none hp), _, _, _, rfl, p, rfl, by rw [← aa]; exact upd_same⟩
          · have h4 := of_decide_eq_false (Bool.eq_false_iff.mpr h4)
            have e4 : stepB x.length W (some j) i = some j := by
              unfold stepB
              rw [if_pos hw]
              exact if_neg (by omega)
            rw [e4]
            walk_at "rd"
            exact ⟨e2, _, _, _, rfl, r, rfl, hr2⟩
    · rintro σ H2 ⟨e2, bv, o1, o2, rfl, hb⟩
      change dueV x.length (bestOf x.length W (blanks x)) bv H2 at hb
      cases hbb : bestOf x.length W (blanks x) with
      | none =>
        rw [hbb] at hb q
        have hb : bv = .non := hb
        subst hb
        walk_at "rd"
        refine ⟨x, rfl, hz, ?_⟩
        walk_at "rd"
        refine ⟨sz _ (by simp), fun p hp => ?_⟩
        exact q _ _ (e2.mut (e2.none hp)) (.tup (sqT_of upd_same) (.cons (.str _) (.cons (.int _) (.cons (.bl _) .nil))))
      | some k =>
        rw [hbb] at hb q
        obtain ⟨r, rfl, hr2⟩ := hb
        walk_at "rd"
        refine rd_ixT (sqT_of hr2) rfl ?_
        walk_at "rd"
        refine rd_to (k := k) rfl (sz _ (by omega)) ?_
        walk_at "rd"
        refine rd_ixT (sqT_of hr2) rfl ?_
        walk_at "rd"
        refine rd_from (k := k + 1) rfl (sz _ (by omega)) ?_
        walk_at "rd"
        refine ⟨sz _ (by simp), fun p hp => ?_⟩
        walk_at "rd"
        refine ⟨sz _ (by simp), fun p2 hp2 => ?_⟩
        have e1 := e2.mut (o := .tup [V.str (SX.S (x.take k)), V.str (SX.S (x.drop (k + 1)))]) (e2.none hp)
        refine q _ _ (e1.mut (e1.none hp2)) (.tup (sqT_of upd_same) (.cons (.str _) (.cons (.tup (sqT_of ?_) (.cons (.str _) (.cons (.str _) .nil))) .nil)))
        rw [upd_ne (ne_of_none upd_same hp2)]
        exact upd_same

end
end K
namespace K
open PySem PySem.Spec PyProof.Rows L2
/-! one step of a reading; as many as go -/
local macro_rules | `(tactic| walk_at "rs1") => `(tactic| first
  | (with_reducible refine rd_next ?_) | (with_reducible refine rd_ret ?_) | (with_reducible refine rd_retN ?_) | (with_reducible refine rd_break ?_) | (with_reducible refine rd_cont ?_)
  | (with_reducible refine rd_drop ?_) | (with_reducible refine rd_asg ?_) | (with_reducible refine rd_gname ?_; dsimp only [List.set_cons_zero, List.set_cons_succ]) | (with_reducible refine rd_gsub ?_) | (with_reducible refine rd_if ?_)
  | (with_reducible refine rd_var (by with_unfolding_all exact rfl) ?_) | (with_reducible refine rd_c ?_) | (with_reducible refine rd_op ?_) | (with_reducible refine rd_un ?_) | (with_reducible refine rd_chain ?_)
  | (with_reducible refine rd_test ?_) | (with_reducible refine rd_tB ?_) | (with_reducible refine rd_not ?_) | (with_reducible refine rd_and ?_) | (with_reducible refine rd_or ?_)
  | (with_reducible refine rd_andV ?_) | (with_reducible refine rd_orV ?_) | (with_reducible refine rd_notV ?_) | (with_reducible refine rd_ifE ?_) | (with_reducible refine rd_yes ?_)
  | (with_reducible refine rd_cons ?_) | (with_reducible refine rd_nil ?_) | (with_reducible refine rd_cb ?_) | (with_reducible refine rd_call ?_) | (with_reducible refine rd_callS ?_)
  | (with_reducible refine rd_tup ?_) | (with_reducible refine rd_lst ?_) | (with_reducible refine rd_sl ?_) | (with_reducible refine rd_part ?_) | (with_reducible refine rd_nopart ?_)
  | (with_reducible refine rd_bm ?_) | (with_reducible refine rd_bm0 ?_) | (with_reducible refine rd_m0 ?_) | (with_reducible refine rd_m1 ?_) | (with_reducible refine rd_isS ?_)
  | (with_reducible refine rd_I0 ?_) | (with_reducible refine rd_U ?_) | (with_reducible refine rd_eq (by with_unfolding_all exact rfl) ?_) | (with_reducible refine rd_ne (by with_unfolding_all exact rfl) ?_)
  | (with_reducible refine rd_isN_non ?_) | (with_reducible refine rd_isN_int ?_) | (with_reducible refine rd_isN_str ?_) | (with_reducible refine rd_isN_ref ?_) | (with_reducible refine rd_isN_bl ?_)
  | (with_reducible refine rd_notN_non ?_) | (with_reducible refine rd_notN_int ?_) | (with_reducible refine rd_notN_str ?_) | (with_reducible refine rd_notN_ref ?_)
  | (with_reducible refine rd_abs ?_) | (with_reducible refine rd_max ?_) | (with_reducible refine rd_min ?_) | (with_reducible refine rd_int ?_) | (with_reducible refine rd_ord ?_)
  | (with_reducible refine rd_inS ?_) | (with_reducible refine rd_notinS ?_)
  | (with_reducible refine iteT ?_) | (with_reducible refine iteF ?_) | (with_reducible refine rd_nT ?_) | (with_reducible refine rd_nF ?_)
  | (with_reducible refine rd_for ?_) | (with_reducible refine rd_lc ?_) | (with_reducible refine rd_iStr ?_) | (with_reducible refine rd_rng1 ?_) | (with_reducible refine rd_rngN (by omega) ?_; rw [Int.toNat_natCast]) | (with_reducible refine rd_rngI (by omega) ?_) | (with_reducible refine rd_lenA (sz _ (by omega)) ?_)
  | (with_reducible refine rd_mod (by omega) ?_) | (with_reducible refine rd_div (by omega) (by omega) ?_) | (with_reducible refine rd_mulR (by omega) (by omega) ?_) | (with_reducible refine rd_mulL (by omega) (by omega) ?_) | (with_reducible refine rd_pow (by decide) (by decide +kernel) ?_)
  | (with_reducible refine rd_xf ?_)
  | (with_reducible refine rd_raiseErr ?_) | (with_reducible refine rd_iList ?_)
  | (with_reducible refine ⟨_, rfl, ?_⟩))
local macro_rules | `(tactic| walk_at "rd1") => `(tactic| first | (with_reducible refine rd_seq ?_) | walk_at "rs1")
local macro_rules | `(tactic| walk_at "rs") => `(tactic| (repeat (walk_at "rs1")))
local macro_rules | `(tactic| walk_at "rd") => `(tactic| (repeat (walk_at "rd1")))

section
variable {P : Program} {w : World} {K : PySem.W.Frag} {mg : Str → Option Value} {base : Heap} {A : Nat → Addr} {D : Nat → FuncData}
/-! ### words -/
def signs : List Nat := [97, 98, 99, 100, 101, 102, 103, 104, 105, 106, 107, 108, 109, 110, 111, 112, 113, 114, 115, 116, 117, 118, 119, 120, 121, 122, 65, 66, 67, 68, 69, 70, 71, 72, 73, 74, 75, 76, 77, 78, 79, 80, 81, 82, 83, 84, 85, 86, 87, 88, 89, 90, 48, 49, 50, 51, 52, 53, 54, 55, 56, 57, 33, 34, 35, 36, 38, 39, 40, 41, 42, 43, 44, 45, 46, 47, 58, 59, 60, 61, 62, 63, 64, 91, 92, 93, 94, 95, 96, 123, 124, 125, 126]
theorem rd_cs {σ : L2.St} {H : Hp} {Q : VK} {s s' : Str} (e : s = s') (h : Q (.str s') H) : tC (.str s) σ H Q := by
  rw [e]
  exact h
theorem signs_len : signs.length = 93 := by decide +kernel
theorem signs_ok : ∀ s ∈ signs, okC s = true ∧ s ≠ 32 := by
  have h : signs.all (fun s => okC s && !decide (s = 32)) = true := by decide +kernel
  intro s hs
  have := List.all_eq_true.mp h s hs
  simpa using this
/-- a word -/
def Wo (w : List Nat) : Prop := w ≠ [] ∧ ∀ s ∈ w, okC s = true ∧ s ≠ 32
theorem Wo.jn {w : List Nat} (h : Wo w) : Jn w := .word h.1 fun c hc => (h.2 c hc).2
theorem Wo.ok {w : List Nat} (h : Wo w) : w.all okC = true := List.all_eq_true.mpr fun c hc => (h.2 c hc).1
theorem wo_of {ys : List V} {l : List Nat} (h : Paired (fun _ y => ∃ s, y = V.str (SX.S [s]) ∧ okC s = true ∧ s ≠ 32) l ys) : ∃ ss : List Nat, ys = (ss.map fun s => [s]).map (fun y => V.str (SX.S y)) ∧ ss.length = l.length ∧ ∀ s ∈ ss, okC s = true ∧ s ≠ 32 := by
  induction h with
  | nil => exact ⟨[], rfl, rfl, fun s h => absurd h (by simp)⟩
  | cons h1 h2 ih =>
    obtain ⟨s, rfl, hs⟩ := h1
    obtain ⟨ss, rfl, hl, ha⟩ := ih
    refine ⟨s :: ss, rfl, by simp [hl], fun t ht => ?_⟩
    rcases List.mem_cons.mp ht with rfl | ht
    · exact hs
    · exact ha t ht
theorem join_ones : ∀ ss : List Nat, TL.joinL [] (ss.map fun s => [s]) = ss
  | [] => rfl
  | [s] => rfl
  | s :: t :: r => by
    show [s] ++ ([] ++ TL.joinL [] ((t :: r).map fun s => [s])) = _
    rw [join_ones (t :: r)]
    rfl
theorem sum_ones (ss : List Nat) : ((ss.map fun s => [s]).map (·.length)).sum = ss.length := by
  induction ss with
  | nil => rfl
  | cons s r ih =>
    simp only [List.map_cons, List.sum_cons, List.length_cons, List.length_nil] at ih ⊢
    omega
theorem sum_le {ws : List (List Nat)} {m : Nat} (h : ∀ w ∈ ws, w.length ≤ m) : (ws.map (·.length)).sum ≤ ws.length * m := by
  induction ws with
  | nil => simp
  | cons w r ih =>
    have h1 := h w (List.mem_cons_self ..)
    have h2 := ih fun x hx => h x (List.mem_cons_of_mem _ hx)
    simp only [List.map_cons, List.sum_cons, List.length_cons]
    rw [Nat.add_mul]
    omega
def sp_law_text : Sp := fun vs H Q _ => ∃ a c most, vs = [.ref a, .int most] ∧ 1 ≤ most ∧ most ≤ 30 ∧ Ok (some (a, c)) H ∧ ∀ x H', plainL x = true → Fr (some (a, c)) H H' → Ok (some (a, c)) H' → Q (.str (SX.S x)) H'
theorem ok_law_text (T : Txt P K mg A D) : FnOk P w K mg base CX0 3 (A 8) (D 8) ["_law_tape_here", "_law_most"] sp_law_text := by
  refine T.F_law_text.ok sc_law_text (fun vs H Q E h => ?_) (fun cdv B outer s H vs Q E hr h => ?_)
  · obtain ⟨a, c, m, rfl, _⟩ := h
    rfl
  obtain ⟨a, c, most, rfl, m1, m2, k, q⟩ := h
  refine ⟨_, (pss_cons (ps_set (i := 2) sc_law_text.nd rfl (Or.inr rfl) pe_str)
        (pss_cons (ps_set (i := 3) sc_law_text.nd rfl (Or.inl rfl) (pe_lst pa_nil))
        (pss_cons (ps_for PassesOwn.never rfl (pi_range1 (by rfl) T.n_range (pa_cons (pe_call (ok_law_some T) (hr.mono (by decide)) (by rfl) T.m_law_some T.k_law_some T.b_law_some .nil pass0 (pa_cons (pv 0) (pa_cons pe_int (pa_cons (pv 1) pa_nil)))) pa_nil)) (pg_name (i := 4) sc_law_text.nd rfl (Or.inl rfl)) (pss_one (ps_expr (pe_bm PySem.F.plainAttrs_list PySem.F.slot_list_append PySem.F.type_list_append mt_append (pv 3) (pa_cons (pe_m1 PySem.F.slot_str_join PySem.F.type_str_join mq_join pe_str (pe_lc (own := [("_law_at", 5)]) (g := gName 5) (tt := tYes) (by rfl) sc_law_text.nd (pi_range1 (by rfl) T.n_range (pa_cons (pe_call (ok_law_some T) (hr.mono (by decide)) (by rfl) T.m_law_some T.k_law_some T.b_law_some .nil pass0 (pa_cons (pv 0) (pa_cons pe_int (pa_cons pe_int pa_nil)))) pa_nil)) (blkOk_by (N := N_law_text) (sc := defScope s_law_text) (own := [("_law_at", 5)]) (by decide +kernel)) (fun _ _ _ _ _ => pg_name (i := 5) sc_law_text.nd rfl (Or.inl rfl)) (fun _ _ _ _ _ => pts_nil) (fun _ _ _ _ _ => (pe_ix ix_str (pv 2) (pe_call (ok_law_pick T) (hr.mono (by decide)) (by rfl) T.m_law_pick T.k_law_pick T.b_law_pick .nil pass0 (pa_cons (pv 0) (pa_cons (pe_callB cq_lenS (by rfl) T.n_len (by decide +kernel) (pa_cons (pv 2) pa_nil)) pa_nil))) (fun _ _ => rfl))))) pa_nil)))))
        (pss_one (ps_ret (pe_m1 PySem.F.slot_str_strip PySem.F.type_str_strip mq_stripC (pe_slice sl_str (pe_m1 PySem.F.slot_str_join PySem.F.type_str_join mq_join pe_str (pv 3)) po_none (po_some pe_int)) pe_str)))))), ?_⟩
  refine rd_start (σ := [some (.ref a), some (.int most), none, none, none, none]) rfl ?_
  have sl := signs_len
  refine rd_seq (rd_asg (rd_cs (s' := SX.S signs) ?_ ?_))
  · decide +kernel
  walk_at "rd"
  refine ⟨sz _ (by simp), fun wl hwl => ?_⟩
  walk_at "rd"
  refine ⟨a, c, 1, most, rfl, k.new hwl, by omega, by omega, fun d H1 d1 d2 f1 k1 => ?_⟩
  walk_at "rd"
  have nwl : ¬ moved (some (a, c)) wl := k.fresh hwl
  have F1 : Fr (some (a, c)) H H1 := (Fr.new (H' := H) k (Fr.refl _ H) hwl).trans f1
  refine forIt walk_range (fun i σ H' => Fr (some (a, c)) H H' ∧ Ok (some (a, c)) H' ∧ ∃ (ws : List (List Nat)) (o1 : Option V), ws.length = i ∧ H' wl = some (.lst (ws.map fun y => V.str (SX.S y))) ∧ (∀ w ∈ ws, Wo w ∧ w.length ≤ 6) ∧ σ = [some (.ref a), some (.int most), some (.str (SX.S signs)), some (.ref wl), o1, none]) ⟨F1, k1, [], none, rfl, f1 _ _ nwl upd_same, fun w h => absurd h (by simp), rfl⟩ (fun _ _ _ _ _ => trivial) ?_ ?_
  · rintro i y σ H2 H3 hi ⟨F2, k2, ws, o1, hl, hws, hwo, rfl⟩ ⟨rfl, rfl⟩
    walk_at "rd"
    refine rd_tyL (sqL_of hws) ?_
    walk_at "rd"
    refine ⟨a, c, 1, 6, rfl, k2, by omega, by omega, fun e H3 e1 e2 f3 k3 => ?_⟩
    walk_at "rd"
    intro Dz hDz
    refine lcR (w := some (a, c)) walk_range (fun _ => true) (fun _ y _ => ∃ s, y = V.str (SX.S [s]) ∧ okC s = true ∧ s ≠ 32) k3 hDz (by omega) ?_ ?_ ?_ ?_ ?_ ?_ ?_
    · exact fun x => rfl
    · exact fun _ _ _ => trivial
    · exact fun i y H2 H3 t h => h
    · exact fun i H x H' y => y.1
    · exact fun j x H4 hj f k ⟨_, hx⟩ Q' h => h H4 (Fr.refl _ _) k
    · rintro j x H4 H5 hj _ f4 k4 ⟨_, rfl⟩ f5 k5 Q' h
      walk_at "rd"
      refine ⟨a, c, _, rfl, k5, by omega, fun d' H6 d3 d4 f6 k6 => ?_⟩
      obtain ⟨n, rfl⟩ : ∃ n : Nat, d' = n := ⟨d'.toNat, by omega⟩
      refine rd_ixA (k := n) rfl (sz _ (by omega)) (by omega) ?_
      exact h _ _ f6 k6 ⟨_, rfl, signs_ok _ (List.getElem_mem _)⟩
    · intro H4 ys f4 k4 hD hp
      obtain ⟨ss, rfl, hlen, hok⟩ := wo_of hp
      rw [kept_all, List.length_range] at hlen
      walk_at "rd"
      refine rd_joinA (a := []) (sqL_of hD) ?_ ?_
      · rw [sum_ones]
        simp
        omega
      rw [join_ones]
      walk_at "rd"
      have f34 := f3.trans f4
      refine rd_append (f34 wl _ nwl hws) (by rw [List.length_map, sizeLine_eq]; omega) ?_
      refine ⟨(F2.trans f34).mut hwl, k.mut k4 hwl, ws ++ [ss], _, by simp [hl], by rw [List.map_append]; exact upd_same, fun w hw => ?_, rfl⟩
      rcases List.mem_append.mp hw with hw | hw
      · exact hwo w hw
      · have e : w = ss := by simpa using hw
        subst e
        refine ⟨⟨fun e => ?_, hok⟩, by omega⟩
        rw [e] at hlen
        simp at hlen
        omega
  · rintro σ H2 ⟨F2, k2, ws, o1, hl, hws, hwo, rfl⟩
    walk_at "rd"
    have hsum := sum_le fun w hw => (hwo w hw).2
    refine rd_joinA (a := [32]) (sqL_of hws) ?_ ?_
    · show _ + ws.length * 1 ≤ _
      omega
    have hwn : ws ≠ [] := fun e => by
      rw [e] at hl
      simp at hl
      omega
    have hj := Jn.join hwn fun p hp => (hwo p hp).1.jn
    have ho := joinL_all (p := okC) (by decide) fun x hx => (hwo x hx).1.ok
    have hln := joinL_len (ps := ws)
    rw [if_neg hwn] at hln
    generalize TL.joinL [32] ws = u at hj ho hln
    walk_at "rd"
    refine rd_to (k := 60) rfl (sz _ (by omega)) ?_
    walk_at "rd"
    refine rd_stripC (sz _ (by rw [SX.S_len, List.length_take]; omega)) ?_
    have hh : (u.take 60).head? ≠ some 32 := by
      obtain ⟨_, h2, h3, _⟩ := hj
      cases u with
      | nil => exact absurd rfl h2
      | cons c r => exact h3
    rw [show (Str.ofString " ") = SX.S [32] from rfl, strip_rtrim hh]
    refine q _ _ (plain_jn (rtrim_jn hj (by omega)) (List.all_eq_true.mpr fun c hc => List.all_eq_true.mp ho c (rtrim_sub hc)) ?_) F2 k2
    have := rtrim_le (u.take 60)
    rw [List.length_take] at this
    omega

end
end K
namespace K
open PySem PySem.Spec PyProof.Rows L2
/-! one step of a reading; as many as go -/
local macro_rules | `(tactic| walk_at "rs1") => `(tactic| first
  | (with_reducible refine rd_next ?_) | (with_reducible refine rd_ret ?_) | (with_reducible refine rd_retN ?_) | (with_reducible refine rd_break ?_) | (with_reducible refine rd_cont ?_)
  | (with_reducible refine rd_drop ?_) | (with_reducible refine rd_asg ?_) | (with_reducible refine rd_gname ?_; dsimp only [List.set_cons_zero, List.set_cons_succ]) | (with_reducible refine rd_gsub ?_) | (with_reducible refine rd_if ?_)
  | (with_reducible refine rd_var (by with_unfolding_all exact rfl) ?_) | (with_reducible refine rd_c ?_) | (with_reducible refine rd_op ?_) | (with_reducible refine rd_un ?_) | (with_reducible refine rd_chain ?_)
  | (with_reducible refine rd_test ?_) | (with_reducible refine rd_tB ?_) | (with_reducible refine rd_not ?_) | (with_reducible refine rd_and ?_) | (with_reducible refine rd_or ?_)
  | (with_reducible refine rd_andV ?_) | (with_reducible refine rd_orV ?_) | (with_reducible refine rd_notV ?_) | (with_reducible refine rd_ifE ?_) | (with_reducible refine rd_yes ?_)
  | (with_reducible refine rd_cons ?_) | (with_reducible refine rd_nil ?_) | (with_reducible refine rd_cb ?_) | (with_reducible refine rd_call ?_) | (with_reducible refine rd_callS ?_)
  | (with_reducible refine rd_tup ?_) | (with_reducible refine rd_lst ?_) | (with_reducible refine rd_sl ?_) | (with_reducible refine rd_part ?_) | (with_reducible refine rd_nopart ?_)
  | (with_reducible refine rd_bm ?_) | (with_reducible refine rd_bm0 ?_) | (with_reducible refine rd_m0 ?_) | (with_reducible refine rd_m1 ?_) | (with_reducible refine rd_isS ?_)
  | (with_reducible refine rd_I0 ?_) | (with_reducible refine rd_U ?_) | (with_reducible refine rd_eq (by with_unfolding_all exact rfl) ?_) | (with_reducible refine rd_ne (by with_unfolding_all exact rfl) ?_)
  | (with_reducible refine rd_isN_non ?_) | (with_reducible refine rd_isN_int ?_) | (with_reducible refine rd_isN_str ?_) | (with_reducible refine rd_isN_ref ?_) | (with_reducible refine rd_isN_bl ?_)
  | (with_reducible refine rd_notN_non ?_) | (with_reducible refine rd_notN_int ?_) | (with_reducible refine rd_notN_str ?_) | (with_reducible refine rd_notN_ref ?_)
  | (with_reducible refine rd_abs ?_) | (with_reducible refine rd_max ?_) | (with_reducible refine rd_min ?_) | (with_reducible refine rd_int ?_) | (with_reducible refine rd_ord ?_)
  | (with_reducible refine rd_inS ?_) | (with_reducible refine rd_notinS ?_)
  | (with_reducible refine iteT ?_) | (with_reducible refine iteF ?_) | (with_reducible refine rd_nT ?_) | (with_reducible refine rd_nF ?_)
  | (with_reducible refine rd_for ?_) | (with_reducible refine rd_lc ?_) | (with_reducible refine rd_iStr ?_) | (with_reducible refine rd_rng1 ?_) | (with_reducible refine rd_rngN (by omega) ?_; rw [Int.toNat_natCast]) | (with_reducible refine rd_rngI (by omega) ?_) | (with_reducible refine rd_lenA (sz _ (by omega)) ?_)
  | (with_reducible refine rd_mod (by omega) ?_) | (with_reducible refine rd_div (by omega) (by omega) ?_) | (with_reducible refine rd_mulR (by omega) (by omega) ?_) | (with_reducible refine rd_mulL (by omega) (by omega) ?_) | (with_reducible refine rd_pow (by decide) (by decide +kernel) ?_)
  | (with_reducible refine rd_xf ?_)
  | (with_reducible refine rd_raiseErr ?_) | (with_reducible refine rd_iList ?_)
  | (with_reducible refine ⟨_, rfl, ?_⟩))
local macro_rules | `(tactic| walk_at "rd1") => `(tactic| first | (with_reducible refine rd_seq ?_) | walk_at "rs1")
local macro_rules | `(tactic| walk_at "rs") => `(tactic| (repeat (walk_at "rs1")))
local macro_rules | `(tactic| walk_at "rd") => `(tactic| (repeat (walk_at "rd1")))

section
variable {P : Program} {w : World} {K : PySem.W.Frag} {mg : Str → Option Value} {base : Heap} {A : Nat → Addr} {D : Nat → FuncData}
/-! ### _law_wide_text -/
theorem wo_signs {k : Nat} (h : 0 < k) : Wo (signs.take k) := by
  refine ⟨fun e => ?_, fun s hs => signs_ok s (List.mem_of_mem_take hs)⟩
  have := congrArg List.length e
  rw [List.length_take, signs_len] at this
  simp at this
  omega
/-- what stands before the cut: a blank, then words -/
def Tx (t : List Nat) : Prop := ∃ u, t = 32 :: u ∧ Jn u ∧ u.all okC = true
theorem Tx.add {t w : List Nat} (h : Tx t ∨ t = []) (hw : Wo w) : Tx (t ++ [32] ++ w) := by
  rcases h with ⟨u, rfl, hj, ho⟩ | rfl
  · refine ⟨u ++ 32 :: w, by simp, hj.app hw.jn, ?_⟩
    rw [List.all_append, ho, List.all_cons, hw.ok]
    decide
  · exact ⟨w, by simp, hw.jn, hw.ok⟩
def sp_law_wide_text : Sp := fun vs H Q _ => ∃ a c, vs = [.ref a] ∧ Ok (some (a, c)) H ∧ ∀ x H', plainL x = true → Fr (some (a, c)) H H' → Ok (some (a, c)) H' → Q (.str (SX.S x)) H'
theorem ok_law_wide_text (T : Txt P K mg A D) : FnOk P w K mg base CX0 4 (A 10) (D 10) ["_law_tape_here"] sp_law_wide_text := by
  refine T.F_law_wide_text.ok sc_law_wide_text (fun vs H Q E h => ?_) (fun cdv B outer s H vs Q E hr h => ?_)
  · obtain ⟨a, c, rfl, _⟩ := h
    rfl
  obtain ⟨a, c, rfl, k, q⟩ := h
  refine ⟨_, (pss_cons (ps_set (i := 1) sc_law_wide_text.nd rfl (Or.inr rfl) pe_str)
        (pss_cons (ps_set (i := 2) sc_law_wide_text.nd rfl (Or.inl rfl) (pe_call (ok_law_pick T) (hr.mono (by decide)) (by rfl) T.m_law_pick T.k_law_pick T.b_law_pick .nil pass0 (pa_cons (pv 0) (pa_cons pe_int pa_nil))))
        (pss_cons (ps_if (pt_cmpR op_eq (pv 2) pe_int (nomark _)) (pss_one (ps_ret (pe_call (ok_law_text T) (hr.mono (by decide)) (by rfl) T.m_law_text T.k_law_text T.b_law_text .nil pass0 (pa_cons (pv 0) (pa_cons pe_int pa_nil))))) pss_nil)
        (pss_cons (ps_if (pt_cmpR op_eq (pv 2) pe_int (nomark _)) (pss_cons (ps_set (i := 3) sc_law_wide_text.nd rfl (Or.inl rfl) pe_str)
        (pss_cons (ps_for PassesOwn.never rfl (pi_range1 (by rfl) T.n_range (pa_cons (pe_call (ok_law_some T) (hr.mono (by decide)) (by rfl) T.m_law_some T.k_law_some T.b_law_some .nil pass0 (pa_cons (pv 0) (pa_cons pe_int (pa_cons pe_int pa_nil)))) pa_nil)) (pg_name (i := 4) sc_law_wide_text.nd rfl (Or.inl rfl)) (pss_cons (ps_set (i := 5) sc_law_wide_text.nd rfl (Or.inl rfl) (pe_call (ok_law_some T) (hr.mono (by decide)) (by rfl) T.m_law_some T.k_law_some T.b_law_some .nil pass0 (pa_cons (pv 0) (pa_cons pe_int (pa_cons (pe_ix (ix_listK (K := K) rfl) (pe_lst (pa_cons pe_int (pa_cons pe_int (pa_cons pe_int pa_nil)))) (pe_call (ok_law_pick T) (hr.mono (by decide)) (by rfl) T.m_law_pick T.k_law_pick T.b_law_pick .nil pass0 (pa_cons (pv 0) (pa_cons pe_int pa_nil))) (fun _ _ => rfl)) pa_nil)))))
        (pss_one (ps_if (pt_cmpR op_lt (pe_callB cq_lenS (by rfl) T.n_len (by decide +kernel) (pa_cons (pv 3) pa_nil)) pe_int (nomark _)) (pss_one (ps_set (i := 3) sc_law_wide_text.nd rfl (Or.inl rfl) (pe_op oq_addS (pe_op oq_addS (pv 3) pe_str) (pe_m1 PySem.F.slot_str_join PySem.F.type_str_join mq_join pe_str (pe_lc (own := [("_law_at", 7)]) (g := gName 7) (tt := tYes) (by rfl) sc_law_wide_text.nd (pi_range1 (by rfl) T.n_range (pa_cons (pv 5) pa_nil)) (blkOk_by (N := N_law_wide_text) (sc := defScope s_law_wide_text) (own := [("_law_at", 7)]) (by decide +kernel)) (fun _ _ _ _ _ => pg_name (i := 7) sc_law_wide_text.nd rfl (Or.inl rfl)) (fun _ _ _ _ _ => pts_nil) (fun _ _ _ _ _ => (pe_ix ix_str (pv 1) (pe_call (ok_law_pick T) (hr.mono (by decide)) (by rfl) T.m_law_pick T.k_law_pick T.b_law_pick .nil pass0 (pa_cons (pv 0) (pa_cons (pe_callB cq_lenS (by rfl) T.n_len (by decide +kernel) (pa_cons (pv 1) pa_nil)) pa_nil))) (fun _ _ => rfl)))))))) pss_nil))))
        (pss_one (ps_ret (pe_m1 PySem.F.slot_str_strip PySem.F.type_str_strip mq_stripC (pe_slice sl_str (pv 3) (po_some pe_int) (po_some pe_int)) pe_str))))) pss_nil)
        (pss_cons (ps_if (pt_cmpR op_eq (pv 2) pe_int (nomark _)) (pss_cons (ps_set (i := 6) sc_law_wide_text.nd rfl (Or.inl rfl) (pe_slice sl_str (pv 1) po_none (po_some (pe_call (ok_law_some T) (hr.mono (by decide)) (by rfl) T.m_law_some T.k_law_some T.b_law_some .nil pass0 (pa_cons (pv 0) (pa_cons pe_int (pa_cons pe_int pa_nil)))))))
        (pss_one (ps_ret (pe_m1 PySem.F.slot_str_join PySem.F.type_str_join mq_join pe_str (pe_op op_rep (pe_lst (pa_cons (pv 6) pa_nil)) (pe_call (ok_law_some T) (hr.mono (by decide)) (by rfl) T.m_law_some T.k_law_some T.b_law_some .nil pass0 (pa_cons (pv 0) (pa_cons pe_int (pa_cons (pe_op op_fdiv pe_int (pe_op op_add (pe_callB cq_lenS (by rfl) T.n_len (by decide +kernel) (pa_cons (pv 6) pa_nil)) pe_int)) pa_nil))))))))) pss_nil)
        (pss_one (ps_ret (pe_slice sl_str (pv 1) po_none (po_some (pe_call (ok_law_some T) (hr.mono (by decide)) (by rfl) T.m_law_some T.k_law_some T.b_law_some .nil pass0 (pa_cons (pv 0) (pa_cons pe_int (pa_cons pe_int pa_nil))))))))))))), ?_⟩
  refine rd_start (σ := [some (.ref a), none, none, none, none, none, none, none]) rfl ?_
  have sl := signs_len
  refine rd_seq (rd_asg (rd_cs (s' := SX.S signs) ?_ ?_))
  · decide +kernel
  walk_at "rd"
  refine ⟨a, c, 4, rfl, k, by omega, fun d H1 d1 d2 f1 k1 => ?_⟩
  walk_at "rd"
  refine ite2 (fun h1 => ?_) (fun h1 => ?_)
  · walk_at "rd"
    exact ⟨a, c, 30, rfl, by omega, by omega, k1, fun x H2 hx f2 k2 => q x H2 hx (f1.trans f2) k2⟩
  clear h1
  walk_at "rd"
  refine ite2 (fun h1 => ?_) (fun h1 => ?_)
  · walk_at "rd"
    refine ⟨a, c, 1, 30, rfl, k1, by omega, by omega, fun d H2 d1 d2 f2 k2 => ?_⟩
    walk_at "rd"
    refine forIt walk_range (fun i σ H' => Fr (some (a, c)) H H' ∧ Ok (some (a, c)) H' ∧ ∃ (t : List Nat) (o1 o2 o3 o4 : Option V), (if i = 0 then t = [] else Tx t) ∧ t.length ≤ 200 ∧ σ = [some (.ref a), some (.str (SX.S signs)), o1, some (.str (SX.S t)), o2, o3, o4, none]) ⟨f1.trans f2, k2, [], _, _, _, _, rfl, by simp, rfl⟩ (fun _ _ _ _ _ => trivial) ?_ ?_
    · rintro i y σ H3 H4 hi ⟨F3, k3, t, o1, o2, o3, o4, ht, htl, rfl⟩ ⟨rfl, rfl⟩
      have ht2 : Tx t ∨ t = [] := by
        by_cases e : i = 0
        · rw [if_pos e] at ht
          exact .inr ht
        · rw [if_neg e] at ht
          exact .inl ht
      walk_at "rd"
      refine ⟨sz _ (by simp), fun p hp => ?_⟩
      walk_at "rd"
      refine ⟨a, c, 3, rfl, k3.new hp, by omega, fun e H5 e1 e2 f5 k5 => ?_⟩
      have np : ¬ moved (some (a, c)) p := k3.fresh hp
      have h5 := f5 p _ np upd_same
      have F5 := (F3.new k3 hp).trans f5
      obtain ⟨z, ez, z1, z2⟩ : ∃ z : Int, atI ([9, 30, 60].map V.int) e = some (.int z) ∧ 1 ≤ z ∧ z ≤ 60 := by
        have : e = 0 ∨ e = 1 ∨ e = 2 := by omega
        rcases this with rfl | rfl | rfl
        · exact ⟨9, rfl, by omega, by omega⟩
        · exact ⟨30, rfl, by omega, by omega⟩
        · exact ⟨60, rfl, by omega, by omega⟩
      refine rd_ixL (sqL_of h5) ez ?_
      walk_at "rd"
      refine ⟨a, c, 1, z, rfl, k5, by omega, by omega, fun many H6 n1 n2 f6 k6 => ?_⟩
      have F6 := F5.trans f6
      walk_at "rd"
      refine ite2 (fun h2 => ?_) (fun h2 => ?_)
      · have h2 := of_decide_eq_true h2
        walk_at "rd"
        refine rd_addA (b := [32]) (sz _ (by simp; omega)) ?_
        walk_at "rd"
        intro Dz hDz
        refine lcR (w := some (a, c)) walk_range (fun _ => true) (fun _ y _ => ∃ s, y = V.str (SX.S [s]) ∧ okC s = true ∧ s ≠ 32) k6 hDz (by omega) ?_ ?_ ?_ ?_ ?_ ?_ ?_
        · exact fun x => rfl
        · exact fun _ _ _ => trivial
        · exact fun i y H2 H3 t h => h
        · exact fun i H x H' y => y.1
        · exact fun j x H4 hj f k ⟨_, hx⟩ Q' h => h H4 (Fr.refl _ _) k
        · rintro j x H4 H5 hj _ f4 k4 ⟨_, rfl⟩ f5 k5 Q' h
          walk_at "rd"
          refine ⟨a, c, _, rfl, k5, by omega, fun d' H6 d3 d4 f6 k6 => ?_⟩
          obtain ⟨n, rfl⟩ : ∃ n : Nat, d' = n := ⟨d'.toNat, by omega⟩
          refine rd_ixA (k := n) rfl (sz _ (by omega)) (by omega) ?_
          exact h _ _ f6 k6 ⟨_, rfl, signs_ok _ (List.getElem_mem _)⟩
        · intro H4 ys f4 k4 hD hp
          obtain ⟨ss, rfl, hlen, hok⟩ := wo_of hp
          rw [kept_all, List.length_range] at hlen
          walk_at "rd"
          refine rd_joinA (a := []) (sqL_of hD) ?_ ?_
          · rw [sum_ones]
            simp
            omega
          rw [join_ones]
          walk_at "rd"
          refine rd_addA (sz _ (by simp; omega)) ?_
          have hw : Wo ss := ⟨fun e => by
            rw [e] at hlen
            simp at hlen
            omega, hok⟩
          refine ⟨F6.trans f4, k4, _, _, _, _, _, ?_, ?_, rfl⟩
          · rw [if_neg (by omega)]
            exact Tx.add ht2 hw
          · simp
            omega
      · have h2 := of_decide_eq_false (Bool.eq_false_iff.mpr h2)
        walk_at "rd"
        refine ⟨F6, k6, t, _, _, _, _, ?_, htl, rfl⟩
        rw [if_neg (by omega)]
        rcases ht2 with h | rfl
        · exact h
        · exact absurd h2 (by simp)
    · rintro σ H3 ⟨F3, k3, t, o1, o2, o3, o4, ht, htl, rfl⟩
      rw [if_neg (by omega)] at ht
      obtain ⟨u, rfl, hj, ho⟩ := ht
      walk_at "rd"
      refine rd_mid (k := 1) (m := 61) rfl rfl (sz _ (by omega)) ?_
      walk_at "rd"
      have e1 : ((32 :: u).drop 1).take (61 - 1) = u.take 60 := rfl
      rw [e1]
      refine rd_stripC (sz _ (by rw [SX.S_len, List.length_take]; omega)) ?_
      have hh : (u.take 60).head? ≠ some 32 := by
        obtain ⟨_, h2, h3, _⟩ := hj
        cases u with
        | nil => exact absurd rfl h2
        | cons c r => exact h3
      rw [show (Str.ofString " ") = SX.S [32] from rfl, strip_rtrim hh]
      refine q _ _ (plain_jn (rtrim_jn hj (by omega)) (List.all_eq_true.mpr fun c hc => List.all_eq_true.mp ho c (rtrim_sub hc)) ?_) F3 k3
      have := rtrim_le (u.take 60)
      rw [List.length_take] at this
      omega
  clear h1
  walk_at "rd"
  refine ite2 (fun h1 => ?_) (fun h1 => ?_)
  · walk_at "rd"
    refine ⟨a, c, 1, 9, rfl, k1, by omega, by omega, fun d H2 d1 d2 f2 k2 => ?_⟩
    obtain ⟨n, rfl⟩ : ∃ n : Nat, d = n := ⟨d.toNat, by omega⟩
    walk_at "rd"
    refine rd_to (k := n) rfl (sz _ (by omega)) ?_
    have hwo : Wo (signs.take n) := wo_signs (by omega)
    have hwl : (signs.take n).length = n := by
      rw [List.length_take]
      omega
    walk_at "rd"
    refine ⟨sz _ (by simp), fun p hp => ?_⟩
    walk_at "rd"
    rw [hwl]
    walk_at "rd"
    have hq1 : 1 ≤ (61 : Int) / (n + 1) := by
      rw [Int.le_ediv_iff_mul_le (by omega)]
      omega
    have hq2 : (61 : Int) / (n + 1) * (n + 1) ≤ 61 := Int.ediv_mul_le _ (by omega)
    have hq3 : (61 : Int) / (n + 1) ≤ 61 := Int.ediv_le_self _ (by omega)
    refine ⟨a, c, 1, _, rfl, k2.new hp, hq1, by omega, fun d H3 d3 d4 f3 k3 => ?_⟩
    have np : ¬ moved (some (a, c)) p := k2.fresh hp
    have h3 := f3 p _ np upd_same
    have F3 := ((f1.trans f2).new k2 hp).trans f3
    obtain ⟨m, rfl⟩ : ∃ m : Nat, d = m := ⟨d.toNat, by omega⟩
    have hmi : (m : Int) * ((n : Int) + 1) ≤ 61 := Int.le_trans (Int.mul_le_mul_of_nonneg_right d4 (by omega)) hq2
    have hmn : m * n + m ≤ 61 := by
      have e : m * (n + 1) ≤ 61 := by exact_mod_cast hmi
      rwa [Nat.mul_add, Nat.mul_one] at e
    show rRep _ _ _ _
    refine ⟨p, m, _, rfl, rfl, h3, by omega, by omega, ?_, fun p2 hp2 => ?_⟩
    · rw [Int.toNat_natCast, sizeLine_eq]
      simp
      omega
    rw [Int.toNat_natCast, List.flatten_replicate_singleton]
    have hm0 : m ≠ 0 := by omega
    have hrep : ∀ p ∈ List.replicate m (signs.take n), p = signs.take n := fun p hp => List.eq_of_mem_replicate hp
    have hrn : List.replicate m (signs.take n) ≠ [] := by
      simp [hm0]
    have hj := Jn.join hrn fun p hp => by rw [hrep p hp]; exact hwo.jn
    have ho := joinL_all (p := okC) (by decide) fun x hx => by rw [hrep x hx]; exact hwo.ok
    have hln := joinL_len (ps := List.replicate m (signs.take n))
    have hsum := sum_le (m := n) fun w hw => by rw [hrep w hw, hwl]; exact Nat.le_refl n
    rw [if_neg hrn, List.length_replicate] at hln
    rw [List.length_replicate] at hsum
    refine rd_joinA (a := [32]) (ys := List.replicate m (signs.take n)) (sqL_of (by rw [List.map_replicate]; exact upd_same)) ?_ ?_
    · rw [List.length_replicate]
      show _ + m * 1 ≤ _
      omega
    exact q _ _ (plain_jn hj ho (by omega)) (F3.new k3 hp2) (k3.new hp2)
  · walk_at "rd"
    refine ⟨a, c, 1, 60, rfl, k1, by omega, by omega, fun d H2 d1 d2 f2 k2 => ?_⟩
    obtain ⟨n, rfl⟩ : ∃ n : Nat, d = n := ⟨d.toNat, by omega⟩
    walk_at "rd"
    refine rd_to (k := n) rfl (sz _ (by omega)) ?_
    have hwo : Wo (signs.take n) := wo_signs (by omega)
    refine q _ _ (plain_jn hwo.jn hwo.ok ?_) (f1.trans f2) k2
    rw [List.length_take]
    omega

end
end K
namespace K
open PySem PySem.Spec PyProof.Rows L2
/-! one step of a reading; as many as go -/
local macro_rules | `(tactic| walk_at "rs1") => `(tactic| first
  | (with_reducible refine rd_next ?_) | (with_reducible refine rd_ret ?_) | (with_reducible refine rd_retN ?_) | (with_reducible refine rd_break ?_) | (with_reducible refine rd_cont ?_)
  | (with_reducible refine rd_drop ?_) | (with_reducible refine rd_asg ?_) | (with_reducible refine rd_gname ?_; dsimp only [List.set_cons_zero, List.set_cons_succ]) | (with_reducible refine rd_gsub ?_) | (with_reducible refine rd_if ?_)
  | (with_reducible refine rd_var (by with_unfolding_all exact rfl) ?_) | (with_reducible refine rd_c ?_) | (with_reducible refine rd_op ?_) | (with_reducible refine rd_un ?_) | (with_reducible refine rd_chain ?_)
  | (with_reducible refine rd_test ?_) | (with_reducible refine rd_tB ?_) | (with_reducible refine rd_not ?_) | (with_reducible refine rd_and ?_) | (with_reducible refine rd_or ?_)
  | (with_reducible refine rd_andV ?_) | (with_reducible refine rd_orV ?_) | (with_reducible refine rd_notV ?_) | (with_reducible refine rd_ifE ?_) | (with_reducible refine rd_yes ?_)
  | (with_reducible refine rd_cons ?_) | (with_reducible refine rd_nil ?_) | (with_reducible refine rd_cb ?_) | (with_reducible refine rd_call ?_) | (with_reducible refine rd_callS ?_)
  | (with_reducible refine rd_tup ?_) | (with_reducible refine rd_lst ?_) | (with_reducible refine rd_sl ?_) | (with_reducible refine rd_part ?_) | (with_reducible refine rd_nopart ?_)
  | (with_reducible refine rd_bm ?_) | (with_reducible refine rd_bm0 ?_) | (with_reducible refine rd_m0 ?_) | (with_reducible refine rd_m1 ?_) | (with_reducible refine rd_isS ?_)
  | (with_reducible refine rd_I0 ?_) | (with_reducible refine rd_U ?_) | (with_reducible refine rd_eq (by with_unfolding_all exact rfl) ?_) | (with_reducible refine rd_ne (by with_unfolding_all exact rfl) ?_)
  | (with_reducible refine rd_isN_non ?_) | (with_reducible refine rd_isN_int ?_) | (with_reducible refine rd_isN_str ?_) | (with_reducible refine rd_isN_ref ?_) | (with_reducible refine rd_isN_bl ?_)
  | (with_reducible refine rd_notN_non ?_) | (with_reducible refine rd_notN_int ?_) | (with_reducible refine rd_notN_str ?_) | (with_reducible refine rd_notN_ref ?_)
  | (with_reducible refine rd_abs ?_) | (with_reducible refine rd_max ?_) | (with_reducible refine rd_min ?_) | (with_reducible refine rd_int ?_) | (with_reducible refine rd_ord ?_)
  | (with_reducible refine rd_inS ?_) | (with_reducible refine rd_notinS ?_)
  | (with_reducible refine iteT ?_) | (with_reducible refine iteF ?_) | (with_reducible refine rd_nT ?_) | (with_reducible refine rd_nF ?_)
  | (with_reducible refine rd_for ?_) | (with_reducible refine rd_lc ?_) | (with_reducible refine rd_iStr ?_) | (with_reducible refine rd_rng1 ?_) | (with_reducible refine rd_rngN (by omega) ?_; rw [Int.toNat_natCast]) | (with_reducible refine rd_rngI (by omega) ?_) | (with_reducible refine rd_lenA (sz _ (by omega)) ?_)
  | (with_reducible refine rd_mod (by omega) ?_) | (with_reducible refine rd_div (by omega) (by omega) ?_) | (with_reducible refine rd_mulR (by omega) (by omega) ?_) | (with_reducible refine rd_mulL (by omega) (by omega) ?_) | (with_reducible refine rd_pow (by decide) (by decide +kernel) ?_)
  | (with_reducible refine rd_xf ?_)
  | (with_reducible refine rd_raiseErr ?_) | (with_reducible refine rd_iList ?_)
  | (with_reducible refine ⟨_, rfl, ?_⟩))
local macro_rules | `(tactic| walk_at "rd1") => `(tactic| first | (with_reducible refine rd_seq ?_) | walk_at "rs1")
local macro_rules | `(tactic| walk_at "rs") => `(tactic| (repeat (walk_at "rs1")))
local macro_rules | `(tactic| walk_at "rd") => `(tactic| (repeat (walk_at "rd1")))

section
variable {P : Program} {w : World} {K : PySem.W.Frag} {mg : Str → Option Value} {base : Heap} {A : Nat → Addr} {D : Nat → FuncData}
/-! ### _law_told -/
theorem kit2 {K : PySem.W.Frag} {C : Value} {a b : Value} (h1 : PySem.W.kitOne K C a = some false) (h2 : PySem.W.kitOne K C b = some false) : PySem.W.kitAny K C [a, b] = some false := by
  show (match PySem.W.kitOne K C a with | some true => _ | some false => _ | none => _) = _
  rw [h1]
  show (match PySem.W.kitOne K C b with | some true => _ | some false => _ | none => _) = _
  rw [h2]
  rfl
def sp_law_told (K : PySem.W.Frag) : Sp := fun vs H Q _ => ∃ v d vw dw, vs = [v, vw] ∧ Dp K H v d ∧ Dp K H vw dw ∧ (∀ x, d = .str x → x.length ≤ 1000) ∧ ∀ y H', Same H H' → Dp K H' y (told dw (two d dw)) → Q y H'
theorem ok_law_told (T : Txt P K mg A D) : FnOk P w K mg base CX0 3 (A 14) (D 14) ["_law_text_here", "_law_width_here"] (sp_law_told K) := by
  refine T.F_law_told.ok sc_law_told (fun vs H Q E h => ?_) (fun cdv B outer s H vs Q E hr h => ?_)
  · obtain ⟨v, d, vw, dw, rfl, _⟩ := h
    rfl
  obtain ⟨v, d, vw, dw, rfl, hd, hw, hsz, q⟩ := h
  refine ⟨_, (pss_cons (ps_try_clauses sc_law_told.nd rfl rfl takes0 (fun W pn xe tk _ => (pss_one (ps_set (i := 2) sc_law_told.nd rfl (Or.inl rfl) (pe_callS (ok_two_lines T) (hr.mono (by decide)) (by rfl) T.m_two_lines T.k_two_lines T.b_two_lines (fun σ => passAt tk σ) (pa_cons (pv 0) (pa_cons (pv 1) pa_nil)))))) (HdsA.consA (i := 3) ⟨rfl, by decide, .inl T.v_BadText⟩ rfl rfl (fun a oe cls d pn hz hf => (pss_one (ps_ret (pe_tup (pa_cons pe_str (pa_cons (pe_xf T.xf_BadText T.no_BadText hz hf (pv 3)) (pa_cons (pe_callB (call_isX hz hf) (by rfl) T.n_isinstance (by decide +kernel) (pa_cons (pv 3) (pa_cons (pe_tup (pa_cons (pe_glob (v := .ref (A 20)) (by rfl) T.v_BadWidth rfl) (pa_cons (pe_glob (v := .ref (A 22)) (by rfl) T.v_TooWide rfl) pa_nil))) pa_nil))) pa_nil))))))) (HdsA.consA (i := 3) ⟨rfl, by decide, .inl T.v_BadWidth⟩ rfl rfl (fun a oe cls d pn hz hf => (pss_one (ps_ret (pe_tup (pa_cons pe_str (pa_cons (pe_xf T.xf_BadWidth T.no_BadWidth hz hf (pv 3)) (pa_cons (pe_callB (call_isX hz hf) (by rfl) T.n_isinstance (by decide +kernel) (pa_cons (pv 3) (pa_cons (pe_tup (pa_cons (pe_glob (v := .ref (A 18)) (by rfl) T.v_BadText rfl) (pa_cons (pe_glob (v := .ref (A 22)) (by rfl) T.v_TooWide rfl) pa_nil))) pa_nil))) pa_nil))))))) (HdsA.consA (i := 3) ⟨rfl, by decide, .inl T.v_TooWide⟩ rfl rfl (fun a oe cls d pn hz hf => (pss_one (ps_ret (pe_tup (pa_cons pe_str (pa_cons (pe_xf T.xf_TooWide T.no_TooWide hz hf (pv 3)) (pa_cons (pe_callB (call_isX hz hf) (by rfl) T.n_isinstance (by decide +kernel) (pa_cons (pv 3) (pa_cons (pe_tup (pa_cons (pe_glob (v := .ref (A 18)) (by rfl) T.v_BadText rfl) (pa_cons (pe_glob (v := .ref (A 20)) (by rfl) T.v_BadWidth rfl) pa_nil))) pa_nil))) pa_nil))))))) (HdsA.cons ⟨rfl, by decide, .inl T.v_CaptionError⟩ (fun a oe cls d pn hz hf => (pss_one (ps_ret (pe_tup (pa_cons pe_str pa_nil))))) HdsA.nil)))))
        (pss_one (ps_ret (pe_tup (pa_cons pe_str (pa_cons (pv 2) pa_nil)))))), ?_⟩
  refine rd_start (σ := [some v, some vw, none, none]) rfl ?_
  walk_at "rd"
  refine ⟨v, d, vw, dw, rfl, hd, hw, hsz, ?_⟩
  cases ht : two d dw with
  | badText =>
    rw [ht] at q
    intro H1 x e1 hx
    refine ⟨true, T.x_BadText_BadText, fun _ ea ha => ?_, (fun h => nomatch h)⟩
    dsimp only [sClause, gone]
    walk_at "rd"
    refine ⟨rfl, rfl, x, _, _, rfl, hx, rfl, ?_⟩
    walk_at "rd"
    refine ⟨sz _ (by simp), fun tp htp => ?_⟩
    walk_at "rd"
    refine ⟨A 18, x, _, rfl, T.is_BadText, rfl, by rw [upd_ne (ne_of_none hx htp)]; exact hx, .inr ⟨tp, _, _, false, rfl, upd_same, .cons (.own _) (.cons (.own _) .nil), kit2 T.i_BadText_BadWidth T.i_BadText_TooWide, ?_⟩⟩
    walk_at "rd"
    refine ⟨sz _ (by simp), fun tq htq => ?_⟩
    refine q _ _ (e1.trans ((Same.upd htp).trans (Same.upd htq))) (.tup (sqT_of upd_same) (.cons (.str _) (.cons (.int _) (.cons (.bl _) .nil))))
  | badWidth =>
    rw [ht] at q
    intro H1 x e1 hx
    refine ⟨false, T.x_BadWidth_BadText, (fun h => nomatch h), fun _ => ⟨true, T.x_BadWidth_BadWidth, fun _ ea ha => ?_, (fun h => nomatch h)⟩⟩
    dsimp only [sClause, gone]
    walk_at "rd"
    refine ⟨rfl, rfl, x, _, _, rfl, hx, rfl, ?_⟩
    walk_at "rd"
    refine ⟨sz _ (by simp), fun tp htp => ?_⟩
    walk_at "rd"
    refine ⟨A 20, x, _, rfl, T.is_BadWidth, rfl, by rw [upd_ne (ne_of_none hx htp)]; exact hx, .inr ⟨tp, _, _, false, rfl, upd_same, .cons (.own _) (.cons (.own _) .nil), kit2 T.i_BadWidth_BadText T.i_BadWidth_TooWide, ?_⟩⟩
    walk_at "rd"
    refine ⟨sz _ (by simp), fun tq htq => ?_⟩
    have e2 := e1.trans ((Same.upd htp).trans (Same.upd (o := .tup [V.str (Str.ofString "BadWidth"), vw, V.bl false]) htq))
    refine q _ _ e2 (.tup (sqT_of upd_same) (.cons (.str _) (.cons (hw.mono e2) (.cons (.bl _) .nil))))
  | wide l =>
    rw [ht] at q
    intro H1 x e1 hx
    refine ⟨false, T.x_TooWide_BadText, (fun h => nomatch h), fun _ => ⟨false, T.x_TooWide_BadWidth, (fun h => nomatch h), fun _ => ⟨true, T.x_TooWide_TooWide, fun _ ea ha => ?_, (fun h => nomatch h)⟩⟩⟩
    dsimp only [sClause, gone]
    walk_at "rd"
    refine ⟨rfl, rfl, x, _, _, rfl, hx, rfl, ?_⟩
    walk_at "rd"
    refine ⟨sz _ (by simp), fun tp htp => ?_⟩
    walk_at "rd"
    refine ⟨A 22, x, _, rfl, T.is_TooWide, rfl, by rw [upd_ne (ne_of_none hx htp)]; exact hx, .inr ⟨tp, _, _, false, rfl, upd_same, .cons (.own _) (.cons (.own _) .nil), kit2 T.i_TooWide_BadText T.i_TooWide_BadWidth, ?_⟩⟩
    walk_at "rd"
    refine ⟨sz _ (by simp), fun tq htq => ?_⟩
    refine q _ _ (e1.trans ((Same.upd htp).trans (Same.upd htq))) (.tup (sqT_of upd_same) (.cons (.str _) (.cons (.int _) (.cons (.bl _) .nil))))
  | lines xs =>
    rw [ht] at q
    intro p H1 e1 hp
    walk_at "rd"
    refine ⟨sz _ (by simp), fun tq htq => ?_⟩
    have hall : ∀ (H : Hp) (xs : List (List Nat)), DpAll K H (xs.map fun x => V.str (SX.S x)) (xs.map strD) := by
      intro H xs
      induction xs with
      | nil => exact .nil
      | cons x r ih => exact .cons (.str _) ih
    refine q _ _ (e1.trans (Same.upd htq)) (.tup (sqT_of upd_same) (.cons (.str _) (.cons (.tup (sqT_of (by rw [upd_ne (ne_of_none hp htq)]; exact hp)) (hall _ xs)) .nil)))
/-! ### _law_base -/
def sp_law_base (K : PySem.W.Frag) : Sp := fun vs H Q _ => ∃ v d vw dw, vs = [v, vw] ∧ Dp K H v d ∧ Dp K H vw dw ∧ (∀ x, d = .str x → x.length ≤ 1000) ∧ (two d dw = .badText ∨ two d dw = .badWidth) ∧ ∀ H', Q (.bl true) H'
theorem ok_law_base (T : Txt P K mg A D) : FnOk P w K mg base CX0 3 (A 15) (D 15) ["_law_text_here", "_law_width_here"] (sp_law_base K) := by
  refine T.F_law_base.ok sc_law_base (fun vs H Q E h => ?_) (fun cdv B outer s H vs Q E hr h => ?_)
  · obtain ⟨v, d, vw, dw, rfl, _⟩ := h
    rfl
  obtain ⟨v, d, vw, dw, rfl, hd, hw, hsz, ht, q⟩ := h
  refine ⟨_, (pss_cons (ps_try_clauses sc_law_base.nd rfl rfl takes0 (fun W pn xe tk _ => (pss_one (ps_expr (pe_callS (ok_two_lines T) (hr.mono (by decide)) (by rfl) T.m_two_lines T.k_two_lines T.b_two_lines (fun σ => passAt tk σ) (pa_cons (pv 0) (pa_cons (pv 1) pa_nil)))))) (HdsA.consA (i := 2) ⟨rfl, by decide, .inl T.v_CaptionError⟩ rfl rfl (fun a oe cls d pn hz hf => (pss_one (ps_ret (pe_callB (call_isX hz hf) (by rfl) T.n_isinstance (by decide +kernel) (pa_cons (pv 2) (pa_cons (pe_bltn (v := .ty "ValueError") (u := .type "ValueError") (by rfl) T.n_ValueError (by decide +kernel) rfl) pa_nil)))))) HdsA.nil))
        (pss_one (ps_ret pe_bl))), ?_⟩
  refine rd_start (σ := [some v, some vw, none]) rfl ?_
  walk_at "rd"
  refine ⟨v, d, vw, dw, rfl, hd, hw, hsz, ?_⟩
  rcases ht with ht | ht
  · rw [ht]
    intro H1 x e1 hx
    refine ⟨true, T.x_BadText_CaptionError, fun _ ea ha => ?_, (fun h => nomatch h)⟩
    dsimp only [sClause, gone]
    walk_at "rd"
    exact ⟨A 18, x, _, rfl, T.is_BadText, rfl, hx, .inl ⟨_, _, true, rfl, .ty _, T.i_BadText_ValueError, q _⟩⟩
  · rw [ht]
    intro H1 x e1 hx
    refine ⟨true, T.x_BadWidth_CaptionError, fun _ ea ha => ?_, (fun h => nomatch h)⟩
    dsimp only [sClause, gone]
    walk_at "rd"
    exact ⟨A 20, x, _, rfl, T.is_BadWidth, rfl, hx, .inl ⟨_, _, true, rfl, .ty _, T.i_BadWidth_ValueError, q _⟩⟩

end
end K
namespace K
open PySem PySem.Spec PyProof.Rows L2
/-! one step of a reading; as many as go -/
local macro_rules | `(tactic| walk_at "rs1") => `(tactic| first
  | (with_reducible refine rd_next ?_) | (with_reducible refine rd_ret ?_) | (with_reducible refine rd_retN ?_) | (with_reducible refine rd_break ?_) | (with_reducible refine rd_cont ?_)
  | (with_reducible refine rd_drop ?_) | (with_reducible refine rd_asg ?_) | (with_reducible refine rd_gname ?_; dsimp only [List.set_cons_zero, List.set_cons_succ]) | (with_reducible refine rd_gsub ?_) | (with_reducible refine rd_if ?_)
  | (with_reducible refine rd_var (by with_unfolding_all exact rfl) ?_) | (with_reducible refine rd_c ?_) | (with_reducible refine rd_op ?_) | (with_reducible refine rd_un ?_) | (with_reducible refine rd_chain ?_)
  | (with_reducible refine rd_test ?_) | (with_reducible refine rd_tB ?_) | (with_reducible refine rd_not ?_) | (with_reducible refine rd_and ?_) | (with_reducible refine rd_or ?_)
  | (with_reducible refine rd_andV ?_) | (with_reducible refine rd_orV ?_) | (with_reducible refine rd_notV ?_) | (with_reducible refine rd_ifE ?_) | (with_reducible refine rd_yes ?_)
  | (with_reducible refine rd_cons ?_) | (with_reducible refine rd_nil ?_) | (with_reducible refine rd_cb ?_) | (with_reducible refine rd_call ?_) | (with_reducible refine rd_callS ?_)
  | (with_reducible refine rd_tup ?_) | (with_reducible refine rd_lst ?_) | (with_reducible refine rd_sl ?_) | (with_reducible refine rd_part ?_) | (with_reducible refine rd_nopart ?_)
  | (with_reducible refine rd_bm ?_) | (with_reducible refine rd_bm0 ?_) | (with_reducible refine rd_m0 ?_) | (with_reducible refine rd_m1 ?_) | (with_reducible refine rd_isS ?_)
  | (with_reducible refine rd_I0 ?_) | (with_reducible refine rd_U ?_) | (with_reducible refine rd_eq (by with_unfolding_all exact rfl) ?_) | (with_reducible refine rd_ne (by with_unfolding_all exact rfl) ?_)
  | (with_reducible refine rd_isN_non ?_) | (with_reducible refine rd_isN_int ?_) | (with_reducible refine rd_isN_str ?_) | (with_reducible refine rd_isN_ref ?_) | (with_reducible refine rd_isN_bl ?_)
  | (with_reducible refine rd_notN_non ?_) | (with_reducible refine rd_notN_int ?_) | (with_reducible refine rd_notN_str ?_) | (with_reducible refine rd_notN_ref ?_)
  | (with_reducible refine rd_abs ?_) | (with_reducible refine rd_max ?_) | (with_reducible refine rd_min ?_) | (with_reducible refine rd_int ?_) | (with_reducible refine rd_ord ?_)
  | (with_reducible refine rd_inS ?_) | (with_reducible refine rd_notinS ?_)
  | (with_reducible refine iteT ?_) | (with_reducible refine iteF ?_) | (with_reducible refine rd_nT ?_) | (with_reducible refine rd_nF ?_)
  | (with_reducible refine rd_for ?_) | (with_reducible refine rd_lc ?_) | (with_reducible refine rd_iStr ?_) | (with_reducible refine rd_rng1 ?_) | (with_reducible refine rd_rngN (by omega) ?_; rw [Int.toNat_natCast]) | (with_reducible refine rd_rngI (by omega) ?_) | (with_reducible refine rd_lenA (sz _ (by omega)) ?_)
  | (with_reducible refine rd_mod (by omega) ?_) | (with_reducible refine rd_div (by omega) (by omega) ?_) | (with_reducible refine rd_mulR (by omega) (by omega) ?_) | (with_reducible refine rd_mulL (by omega) (by omega) ?_) | (with_reducible refine rd_pow (by decide) (by decide +kernel) ?_)
  | (with_reducible refine rd_xf ?_)
  | (with_reducible refine rd_raiseErr ?_) | (with_reducible refine rd_iList ?_)
  | (with_reducible refine ⟨_, rfl, ?_⟩))
local macro_rules | `(tactic| walk_at "rd1") => `(tactic| first | (with_reducible refine rd_seq ?_) | walk_at "rs1")
local macro_rules | `(tactic| walk_at "rs") => `(tactic| (repeat (walk_at "rs1")))
local macro_rules | `(tactic| walk_at "rd") => `(tactic| (repeat (walk_at "rd1")))

section
variable {P : Program} {w : World} {K : PySem.W.Frag} {mg : Str → Option Value} {base : Heap} {A : Nat → Addr} {D : Nat → FuncData}
/-! ### _law_same -/
def dep : Nat → PyData → Prop
  | 0, _ => False
  | _ + 1, .none => True
  | _ + 1, .bool _ => True
  | _ + 1, .int _ => True
  | _ + 1, .str _ => True
  | n + 1, .tuple ds => (∀ d ∈ ds, dep n d) ∧ ds.length ≤ 1000
  | _ + 1, _ => False
def sp_law_same (K : PySem.W.Frag) (n : Nat) : Sp := fun vs H Q _ => ∃ v1 v2 d, vs = [v1, v2] ∧ Dp K H v1 d ∧ Dp K H v2 d ∧ dep n d ∧ ∀ H', Same H H' → Q (.bl true) H'
theorem ok_law_same (T : Txt P K mg A D) : ∀ n : Nat, FnOk P w K mg base CX0 n (A 9) (D 9) ["_law_told_here", "_law_due_here"] (sp_law_same K n)
  | 0 => ⟨fun vs H Q E h => by obtain ⟨_, _, _, _, _, _, h, _⟩ := h; exact h.elim, fun _ _ _ _ _ _ _ _ _ _ _ _ _ h => by obtain ⟨_, _, _, _, _, _, h, _⟩ := h; exact h.elim⟩
  | n + 1 => by
    have IH := ok_law_same T n
    refine T.F_law_same.ok sc_law_same (fun vs H Q E h => ?_) (fun cdv B outer s H vs Q E hr h => ?_)
    · obtain ⟨v1, v2, d, rfl, _⟩ := h
      rfl
    obtain ⟨v1, v2, d, rfl, h1, h2, hdep, q⟩ := h
    refine ⟨_, (pss_cons (ps_if (pt_val (pe_callB call_isi (by rfl) T.n_isinstance (by decide +kernel) (pa_cons (pv 1) (pa_cons (pe_bltn (v := .ty "tuple") (u := .type "tuple") (by rfl) T.n_tuple (by decide +kernel) rfl) pa_nil)))) (pss_cons (ps_if (PW.pt (pw_or (pt_not (pt_val (pe_callB call_isi (by rfl) T.n_isinstance (by decide +kernel) (pa_cons (pv 0) (pa_cons (pe_bltn (v := .ty "tuple") (u := .type "tuple") (by rfl) T.n_tuple (by decide +kernel) rfl) pa_nil))))) (pw_or1 (pt_cmpR op_ne (pe_callB cq_lenL (by rfl) T.n_len (by decide +kernel) (pa_cons (pv 0) pa_nil)) (pe_callB cq_lenL (by rfl) T.n_len (by decide +kernel) (pa_cons (pv 1) pa_nil)) (nomark _))))) (pss_one (ps_ret pe_bl)) pss_nil)
        (pss_one (ps_ret (pe_callB (cr_all rfl) (by rfl) T.n_all (by decide +kernel) (pa_cons (pe_lc (own := [("_law_k", 2)]) (g := gName 2) (tt := tYes) (by rfl) sc_law_same.nd (pi_range1 (by rfl) T.n_range (pa_cons (pe_callB cq_lenL (by rfl) T.n_len (by decide +kernel) (pa_cons (pv 1) pa_nil)) pa_nil)) (blkOk_by (N := N_law_same) (sc := defScope s_law_same) (own := [("_law_k", 2)]) (by decide +kernel)) (fun _ _ _ _ _ => pg_name (i := 2) sc_law_same.nd rfl (Or.inl rfl)) (fun _ _ _ _ _ => pts_nil) (fun _ _ _ _ _ => (pe_call IH (hr) (by rfl) T.m_law_same T.k_law_same T.b_law_same .nil pass0 (pa_cons (pe_ix (ix_tupK (K := K) rfl) (pv 0) (pv 2) (fun _ _ => rfl)) (pa_cons (pe_ix (ix_tupK (K := K) rfl) (pv 1) (pv 2) (fun _ _ => rfl)) pa_nil))))) pa_nil))))) pss_nil)
        (pss_cons (ps_if (pt_cmpR oq_isN (pv 1) pe_non (nomark _)) (pss_one (ps_ret (pe_cmpR oq_isN (pv 0) pe_non (nomark _)))) pss_nil)
        (pss_cons (ps_if (pt_val (pe_callB call_isi (by rfl) T.n_isinstance (by decide +kernel) (pa_cons (pv 1) (pa_cons (pe_bltn (v := .ty "bool") (u := .type "bool") (by rfl) T.n_bool (by decide +kernel) rfl) pa_nil)))) (pss_one (ps_ret (pe_and (pe_callB call_isi (by rfl) T.n_isinstance (by decide +kernel) (pa_cons (pv 0) (pa_cons (pe_bltn (v := .ty "bool") (u := .type "bool") (by rfl) T.n_bool (by decide +kernel) rfl) pa_nil))) (pe_one (pe_cmpR op_eq (pv 0) (pv 1) (nomark _)))))) pss_nil)
        (pss_cons (ps_if (pt_val (pe_callB call_isi (by rfl) T.n_isinstance (by decide +kernel) (pa_cons (pv 1) (pa_cons (pe_bltn (v := .ty "str") (u := .type "str") (by rfl) T.n_str (by decide +kernel) rfl) pa_nil)))) (pss_one (ps_ret (pe_and (pe_callB call_isi (by rfl) T.n_isinstance (by decide +kernel) (pa_cons (pv 0) (pa_cons (pe_bltn (v := .ty "str") (u := .type "str") (by rfl) T.n_str (by decide +kernel) rfl) pa_nil))) (pe_one (pe_cmpR op_eq (pv 0) (pv 1) (nomark _)))))) pss_nil)
        (pss_one (ps_ret (pe_and (pe_callB call_isi (by rfl) T.n_isinstance (by decide +kernel) (pa_cons (pv 0) (pa_cons (pe_bltn (v := .ty "int") (u := .type "int") (by rfl) T.n_int (by decide +kernel) rfl) pa_nil))) (pe_and (pe_not (pe_callB call_isi (by rfl) T.n_isinstance (by decide +kernel) (pa_cons (pv 0) (pa_cons (pe_bltn (v := .ty "bool") (u := .type "bool") (by rfl) T.n_bool (by decide +kernel) rfl) pa_nil)))) (pe_one (pe_cmpR op_eq (pv 0) (pv 1) (nomark _))))))))))), ?_⟩
    refine rd_start (σ := [some v1, some v2, none]) rfl ?_
    walk_at "rd"
    refine rd_isi h2 (kit_tup h2) ?_
    cases h1 with
    | lst _ _ => exact hdep.elim
    | non =>
      cases h2
      dsimp only [L2.isTup]
      walk_at "rd"
      exact q _ (Same.refl _)
    | bl b =>
      cases h2
      dsimp only [L2.isTup]
      walk_at "rd"
      refine rd_isi (K := K) (.bl b) (kit_bool (K := K) (H := H) (.bl b)) ?_
      dsimp only [L2.isBool]
      walk_at "rd"
      refine rd_isi (K := K) (.bl b) (kit_bool (K := K) (H := H) (.bl b)) ?_
      dsimp only [L2.isBool]
      walk_at "rd"
      rw [decide_eq_true rfl]
      exact q _ (Same.refl _)
    | str x =>
      cases h2
      dsimp only [L2.isTup]
      walk_at "rd"
      refine rd_isi (K := K) (.str x) (kit_bool (K := K) (H := H) (.str x)) ?_
      dsimp only [L2.isBool]
      walk_at "rd"
      refine rd_isi (K := K) (.str x) (kit_str (K := K) (H := H) (.str x)) ?_
      dsimp only [L2.isStr]
      walk_at "rd"
      refine rd_isi (K := K) (.str x) (kit_str (K := K) (H := H) (.str x)) ?_
      dsimp only [L2.isStr]
      walk_at "rd"
      rw [decide_eq_true rfl]
      exact q _ (Same.refl _)
    | int x =>
      cases h2
      dsimp only [L2.isTup]
      walk_at "rd"
      refine rd_isi (K := K) (.int x) (kit_bool (K := K) (H := H) (.int x)) ?_
      dsimp only [L2.isBool]
      walk_at "rd"
      refine rd_isi (K := K) (.int x) (kit_str (K := K) (H := H) (.int x)) ?_
      dsimp only [L2.isStr]
      walk_at "rd"
      refine rd_isi (K := K) (.int x) (kit_int (K := K) (H := H) (.int x)) ?_
      dsimp only [L2.isInt]
      walk_at "rd"
      refine rd_isi (K := K) (.int x) (kit_bool (K := K) (H := H) (.int x)) ?_
      dsimp only [L2.isBool]
      walk_at "rd"
      rw [decide_eq_true rfl]
      exact q _ (Same.refl _)
    | @tup p1 xs1 ds hs1 ha1 =>
      obtain ⟨hdep1, hdl⟩ := hdep
      cases h2 with
      | @tup p2 xs2 _ hs2 ha2 =>
      dsimp only [L2.isTup]
      walk_at "rd"
      refine rd_isi (K := K) (.tup hs1 ha1) (kit_tup (K := K) (H := H) (.tup hs1 ha1)) ?_
      dsimp only [L2.isTup]
      walk_at "rd"
      refine rd_lenT hs1 ?_
      walk_at "rd"
      refine rd_lenT hs2 ?_
      walk_at "rd"
      have l1 := ha1.length
      have l2 := ha2.length
      rw [l1, l2, decide_eq_true rfl]
      walk_at "rd"
      refine rd_lenT hs2 ?_
      walk_at "rd"
      intro Dz hDz
      refine lcR (w := none) walk_range (fun _ => true) (fun _ y _ => y = V.bl true) trivial hDz (by omega) ?_ ?_ ?_ ?_ ?_ ?_ ?_
      · exact fun x => rfl
      · exact fun _ _ _ => trivial
      · exact fun i y H2 H3 t h => h
      · exact fun i H x H' y => y.1
      · exact fun j x H4 hj f k ⟨_, hx⟩ Q' h => h H4 (Fr.refl _ _) k
      · rintro j x H4 H5 hj _ f4 _ ⟨_, rfl⟩ f5 _ Q' h
        have e5 : Same H H5 := (f4.trans f5).same
        have hj1 : j < xs1.length := by omega
        have g2 : xs2[j]? = some xs2[j] := List.getElem?_eq_getElem hj
        have g1 : xs1[j]? = some xs1[j] := List.getElem?_eq_getElem hj1
        obtain ⟨d1, hd1, q1⟩ := ha1.get g1
        obtain ⟨d2, hd2, q2⟩ := ha2.get g2
        have ed : d1 = d2 := Option.some.inj (hd1.symm.trans hd2)
        subst ed
        walk_at "rd"
        refine rd_ixT (v := xs1[j]) (e5.seqT hs1) (by rw [Int.zero_add]; exact at_nat hj1) ?_
        walk_at "rd"
        refine rd_ixT (v := xs2[j]) (e5.seqT hs2) (by rw [Int.zero_add]; exact at_nat hj) ?_
        walk_at "rd"
        exact ⟨_, _, d1, rfl, q1.mono e5, q2.mono e5, hdep1 d1 (List.mem_of_getElem? hd1), fun H6 e6 => h _ _ e6.fr trivial rfl⟩
      · intro H4 ys f4 _ hD hp
        have eys := paired_map (f := fun _ => V.bl true) hp
        walk_at "rd"
        refine rd_all (bs := ys.map fun _ => true) (sqL_of (by rw [hD, List.map_map]; congr 2; rw [eys, List.map_map]; rfl)) ?_
        have eall : (ys.map fun _ => true).all id = true := by
          rw [List.all_eq_true]
          intro b hb
          rw [List.mem_map] at hb
          obtain ⟨_, _, rfl⟩ := hb
          rfl
        rw [eall]
        exact q _ f4.same
/-! ### _law_no_text -/
theorem not_plain {x : List Nat} (h : ¬ (Jn x ∧ 1 ≤ x.length ∧ x.length ≤ 60)) : plainL x = false := by
  cases e : plainL x with
  | false => rfl
  | true =>
    obtain ⟨h1, _, h2, h3⟩ := jn_plain e
    exact absurd ⟨h1, h2, h3⟩ h
def so60 : List Nat := [115, 111, 32, 111, 110, 115, 111, 32, 111, 110, 115, 111, 32, 111, 110, 115, 111, 32, 111, 110, 115, 111, 32, 111, 110, 115, 111, 32, 111, 110, 115, 111, 32, 111, 110, 115, 111, 32, 111, 110, 115, 111, 32, 111, 110, 115, 111, 32, 111, 110, 115, 111, 32, 111, 110, 115, 111, 32, 111, 110]
def sp_law_no_text (K : PySem.W.Frag) : Sp := fun vs H Q _ => ∃ a c x, vs = [.ref a, .str (SX.S x)] ∧ plainL x = true ∧ Ok (some (a, c)) H ∧ ∀ v d H', plainD d = false → (∀ s, d = .str s → s.length ≤ 1000) → (∀ H'', Fr (some (a, c)) H' H'' → Dp K H'' v d) → Fr (some (a, c)) H H' → Ok (some (a, c)) H' → Q v H'
theorem ok_law_no_text (T : Txt P K mg A D) : FnOk P w K mg base CX0 2 (A 16) (D 16) ["_law_tape_here", "_law_text_here"] (sp_law_no_text K) := by
  refine T.F_law_no_text.ok sc_law_no_text (fun vs H Q E h => ?_) (fun cdv B outer s H vs Q E hr h => ?_)
  · obtain ⟨a, c, x, rfl, _⟩ := h
    rfl
  obtain ⟨a, c, x, rfl, hpl, k, q⟩ := h
  obtain ⟨hj, hok, hn, hz⟩ := jn_plain hpl
  refine ⟨_, (pss_cons (ps_set (i := 2) sc_law_no_text.nd rfl (Or.inl rfl) (pe_call (ok_law_pick T) (hr.mono (by decide)) (by rfl) T.m_law_pick T.k_law_pick T.b_law_pick .nil pass0 (pa_cons (pv 0) (pa_cons (pe_callB cq_lenS (by rfl) T.n_len (by decide +kernel) (pa_cons (pv 1) pa_nil)) pa_nil))))
        (pss_cons (ps_set (i := 3) sc_law_no_text.nd rfl (Or.inl rfl) (pe_lst (pa_cons pe_str (pa_cons (pe_op oq_addS pe_str (pv 1)) (pa_cons (pe_op oq_addS (pv 1) pe_str) (pa_cons (pe_op oq_addS (pe_op oq_addS (pe_slice sl_str (pv 1) po_none (po_some (pv 2))) pe_str) (pe_slice sl_str (pv 1) (po_some (pv 2)) po_none)) (pa_cons (pe_slice sl_str (pe_op oq_addS (pe_op oq_addS (pv 1) pe_str) (pe_op oq_repS pe_str pe_int)) po_none (po_some pe_int)) pa_nil)))))))
        (pss_cons (ps_set (i := 3) sc_law_no_text.nd rfl (Or.inl rfl) (pe_op op_cat (pv 3) (pe_lst (pa_cons pe_non (pa_cons pe_int (pa_cons pe_bl (pa_cons (pe_lst (pa_cons (pv 1) pa_nil)) (pa_cons (pe_tup (pa_cons (pv 1) pa_nil)) pa_nil))))))))
        (pss_one (ps_ret (pe_ix (ix_listK (K := K) rfl) (pv 3) (pe_call (ok_law_pick T) (hr.mono (by decide)) (by rfl) T.m_law_pick T.k_law_pick T.b_law_pick .nil pass0 (pa_cons (pv 0) (pa_cons (pe_callB cq_lenL (by rfl) T.n_len (by decide +kernel) (pa_cons (pv 3) pa_nil)) pa_nil))) (fun _ _ => rfl))))))), ?_⟩
  refine rd_start (σ := [some (.ref a), some (.str (SX.S x)), none, none]) rfl ?_
  walk_at "rd"
  refine ⟨a, c, _, rfl, k, by omega, fun d H1 d1 d2 f1 k1 => ?_⟩
  obtain ⟨n, rfl⟩ : ∃ n : Nat, d = n := ⟨d.toNat, by omega⟩
  walk_at "rd"
  refine rd_addA (a := [32]) (sz _ (by simp; omega)) ?_
  walk_at "rd"
  refine rd_addA (b := [32]) (sz _ (by simp; omega)) ?_
  walk_at "rd"
  refine rd_to (k := n) rfl (sz _ (by omega)) ?_
  walk_at "rd"
  refine rd_addA (b := [32, 32]) (sz _ (by simp; omega)) ?_
  walk_at "rd"
  refine rd_from (k := n) rfl (sz _ (by omega)) ?_
  refine rd_addA (sz _ (by simp; omega)) ?_
  walk_at "rd"
  refine rd_addA (b := [32]) (sz _ (by simp; omega)) ?_
  walk_at "rd"
  have eso : Txt.mul (Str.ofString "so on") 12 = SX.S so60 := by decide +kernel
  refine rd_repS ⟨by decide +kernel, fun _ _ => by decide +kernel, fun _ _ => by decide +kernel⟩ ?_
  rw [eso]
  have l60 : so60.length = 60 := rfl
  refine rd_addA (sz _ (by simp; omega)) ?_
  walk_at "rd"
  refine rd_to (k := 61) rfl (sz _ (by simp; omega)) ?_
  walk_at "rd"
  refine ⟨sz _ (by simp), fun p hp => ?_⟩
  have f2 := (Fr.refl (some (a, c)) H1).new (o := HO.lst [V.str (Str.ofString ""), V.str (SX.S ([32] ++ x)), V.str (SX.S (x ++ [32])), V.str (SX.S (x.take n ++ [32, 32] ++ x.drop n)), V.str (SX.S ((x ++ [32] ++ so60).take 61))]) k1 hp
  have k2 := k1.new (o := HO.lst [V.str (Str.ofString ""), V.str (SX.S ([32] ++ x)), V.str (SX.S (x ++ [32])), V.str (SX.S (x.take n ++ [32, 32] ++ x.drop n)), V.str (SX.S ((x ++ [32] ++ so60).take 61))]) hp
  have at2 := upd_same (H := H1) (a := p) (o := HO.lst [V.str (Str.ofString ""), V.str (SX.S ([32] ++ x)), V.str (SX.S (x ++ [32])), V.str (SX.S (x.take n ++ [32, 32] ++ x.drop n)), V.str (SX.S ((x ++ [32] ++ so60).take 61))])
  generalize L2.upd H1 p (HO.lst [V.str (Str.ofString ""), V.str (SX.S ([32] ++ x)), V.str (SX.S (x ++ [32])), V.str (SX.S (x.take n ++ [32, 32] ++ x.drop n)), V.str (SX.S ((x ++ [32] ++ so60).take 61))]) = H2 at f2 k2 at2 ⊢
  have F2 := f1.trans f2
  walk_at "rd"
  refine ⟨sz _ (by simp), fun p2 hp2 => ?_⟩
  have np : ¬ moved (some (a, c)) p := k1.fresh hp
  have np2 : ¬ moved (some (a, c)) p2 := k2.fresh hp2
  have f3 := (Fr.refl (some (a, c)) H2).new (o := HO.lst [V.str (SX.S x)]) k2 hp2
  have k3 := k2.new (o := HO.lst [V.str (SX.S x)]) hp2
  have at3 := upd_same (H := H2) (a := p2) (o := HO.lst [V.str (SX.S x)])
  generalize L2.upd H2 p2 (HO.lst [V.str (SX.S x)]) = H3 at f3 k3 at3 ⊢
  have F3 := F2.trans f3
  walk_at "rd"
  refine ⟨sz _ (by simp), fun p3 hp3 => ?_⟩
  have np3 : ¬ moved (some (a, c)) p3 := k3.fresh hp3
  have f4 := (Fr.refl (some (a, c)) H3).new (o := HO.tup [V.str (SX.S x)]) k3 hp3
  have k4 := k3.new (o := HO.tup [V.str (SX.S x)]) hp3
  have at4 := upd_same (H := H3) (a := p3) (o := HO.tup [V.str (SX.S x)])
  generalize L2.upd H3 p3 (HO.tup [V.str (SX.S x)]) = H4 at f4 k4 at4 ⊢
  have F4 := F3.trans f4
  walk_at "rd"
  refine ⟨sz _ (by simp), fun p4 hp4 => ?_⟩
  have f5 := (Fr.refl (some (a, c)) H4).new (o := HO.lst [V.non, V.int 7, V.bl true, V.ref p2, V.ref p3]) k4 hp4
  have k5 := k4.new (o := HO.lst [V.non, V.int 7, V.bl true, V.ref p2, V.ref p3]) hp4
  have at5 := upd_same (H := H4) (a := p4) (o := HO.lst [V.non, V.int 7, V.bl true, V.ref p2, V.ref p3])
  generalize L2.upd H4 p4 (HO.lst [V.non, V.int 7, V.bl true, V.ref p2, V.ref p3]) = H5 at f5 k5 at5 ⊢
  have F5 := F4.trans f5
  have f25 := f3.trans (f4.trans f5)
  refine ⟨p, p4, _, _, rfl, rfl, f25 p _ np at2, at5, sz _ (by simp), fun p6 hp6 => ?_⟩
  walk_at "rd"
  refine rd_lenL (sqL_of upd_same) ?_
  walk_at "rd"
  have k6 := k5.new (o := HO.lst ([V.str (Str.ofString ""), V.str (SX.S ([32] ++ x)), V.str (SX.S (x ++ [32])), V.str (SX.S (x.take n ++ [32, 32] ++ x.drop n)), V.str (SX.S ((x ++ [32] ++ so60).take 61))] ++ [V.non, V.int 7, V.bl true, V.ref p2, V.ref p3])) hp6
  have f6 := (Fr.refl (some (a, c)) H5).new (o := HO.lst ([V.str (Str.ofString ""), V.str (SX.S ([32] ++ x)), V.str (SX.S (x ++ [32])), V.str (SX.S (x.take n ++ [32, 32] ++ x.drop n)), V.str (SX.S ((x ++ [32] ++ so60).take 61))] ++ [V.non, V.int 7, V.bl true, V.ref p2, V.ref p3])) k5 hp6
  refine ⟨a, c, _, rfl, k6, by simp, fun e H7 e1 e2 f7 k7 => ?_⟩
  have e2 : e < 10 := by
    simp at e2
    omega
  have np6 : ¬ moved (some (a, c)) p6 := k5.fresh hp6
  have at7 := f7 p6 _ np6 upd_same
  have F7 := F5.trans (f6.trans f7)
  have f57 := f6.trans f7
  have at3' : H7 p2 = some (.lst [V.str (SX.S x)]) := (f4.trans (f5.trans f57)) p2 _ np2 at3
  have at4' : H7 p3 = some (.tup [V.str (SX.S x)]) := (f5.trans f57) p3 _ np3 at4
  have strOk : ∀ z : List Nat, plainL z = false → z.length ≤ 1000 → Q (.str (SX.S z)) H7 := fun z h1 h2 => q _ (.str (SX.S z)) H7 h1 (fun s e => by
    injection e with e
    rw [← e, SX.S_len]
    exact h2) (fun _ _ => .str _) F7 k7
  have ce : e = 0 ∨ e = 1 ∨ e = 2 ∨ e = 3 ∨ e = 4 ∨ e = 5 ∨ e = 6 ∨ e = 7 ∨ e = 8 ∨ e = 9 := by omega
  rcases ce with rfl | rfl | rfl | rfl | rfl | rfl | rfl | rfl | rfl | rfl
  · refine rd_ixL (sqL_of at7) rfl ?_
    exact strOk [] rfl (by simp)
  · refine rd_ixL (sqL_of at7) rfl ?_
    refine strOk ([32] ++ x) (not_plain fun h => ?_) (by simp; omega)
    exact h.1.2.2.1 rfl
  · refine rd_ixL (sqL_of at7) rfl ?_
    refine strOk (x ++ [32]) (not_plain fun h => ?_) (by simp; omega)
    exact h.1.2.2.2 (by simp)
  · refine rd_ixL (sqL_of at7) rfl ?_
    refine strOk (x.take n ++ [32, 32] ++ x.drop n) (not_plain fun h => ?_) (by simp; omega)
    have h2 : dblL (x.take n ++ [32, 32] ++ x.drop n) = true := by
      rw [← dbl_mem]
      refine ⟨(x.take n).length, ?_⟩
      rw [List.append_assoc, List.drop_left]
      rfl
    have h3 := h.1.1
    rw [h2] at h3
    cases h3
  · refine rd_ixL (sqL_of at7) rfl ?_
    have l61 : ((x ++ [32] ++ so60).take 61).length = 61 := by
      rw [List.length_take]
      simp
      omega
    refine strOk ((x ++ [32] ++ so60).take 61) (not_plain fun h => ?_) (by omega)
    omega
  · refine rd_ixL (sqL_of at7) rfl ?_
    exact q _ .none H7 rfl (fun s e => nomatch e) (fun _ _ => .non) F7 k7
  · refine rd_ixL (sqL_of at7) rfl ?_
    exact q _ (.int 7) H7 rfl (fun s e => nomatch e) (fun _ _ => .int 7) F7 k7
  · refine rd_ixL (sqL_of at7) rfl ?_
    exact q _ (.bool true) H7 rfl (fun s e => nomatch e) (fun _ _ => .bl true) F7 k7
  · refine rd_ixL (sqL_of at7) rfl ?_
    exact q _ (.list [.str (SX.S x)]) H7 rfl (fun s e => nomatch e) (fun H8 f8 => .lst (sqL_of (f8 p2 _ np2 at3')) (.cons (.str _) .nil)) F7 k7
  · refine rd_ixL (sqL_of at7) rfl ?_
    exact q _ (.tuple [.str (SX.S x)]) H7 rfl (fun s e => nomatch e) (fun H8 f8 => .tup (sqT_of (f8 p3 _ np3 at4')) (.cons (.str _) .nil)) F7 k7

end
end K
namespace K
open PySem PySem.Spec PyProof.Rows L2
/-! one step of a reading; as many as go -/
local macro_rules | `(tactic| walk_at "rs1") => `(tactic| first
  | (with_reducible refine rd_next ?_) | (with_reducible refine rd_ret ?_) | (with_reducible refine rd_retN ?_) | (with_reducible refine rd_break ?_) | (with_reducible refine rd_cont ?_)
  | (with_reducible refine rd_drop ?_) | (with_reducible refine rd_asg ?_) | (with_reducible refine rd_gname ?_; dsimp only [List.set_cons_zero, List.set_cons_succ]) | (with_reducible refine rd_gsub ?_) | (with_reducible refine rd_if ?_)
  | (with_reducible refine rd_var (by with_unfolding_all exact rfl) ?_) | (with_reducible refine rd_c ?_) | (with_reducible refine rd_op ?_) | (with_reducible refine rd_un ?_) | (with_reducible refine rd_chain ?_)
  | (with_reducible refine rd_test ?_) | (with_reducible refine rd_tB ?_) | (with_reducible refine rd_not ?_) | (with_reducible refine rd_and ?_) | (with_reducible refine rd_or ?_)
  | (with_reducible refine rd_andV ?_) | (with_reducible refine rd_orV ?_) | (with_reducible refine rd_notV ?_) | (with_reducible refine rd_ifE ?_) | (with_reducible refine rd_yes ?_)
  | (with_reducible refine rd_cons ?_) | (with_reducible refine rd_nil ?_) | (with_reducible refine rd_cb ?_) | (with_reducible refine rd_call ?_) | (with_reducible refine rd_callS ?_)
  | (with_reducible refine rd_tup ?_) | (with_reducible refine rd_lst ?_) | (with_reducible refine rd_sl ?_) | (with_reducible refine rd_part ?_) | (with_reducible refine rd_nopart ?_)
  | (with_reducible refine rd_bm ?_) | (with_reducible refine rd_bm0 ?_) | (with_reducible refine rd_m0 ?_) | (with_reducible refine rd_m1 ?_) | (with_reducible refine rd_isS ?_)
  | (with_reducible refine rd_I0 ?_) | (with_reducible refine rd_U ?_) | (with_reducible refine rd_eq (by with_unfolding_all exact rfl) ?_) | (with_reducible refine rd_ne (by with_unfolding_all exact rfl) ?_)
  | (with_reducible refine rd_isN_non ?_) | (with_reducible refine rd_isN_int ?_) | (with_reducible refine rd_isN_str ?_) | (with_reducible refine rd_isN_ref ?_) | (with_reducible refine rd_isN_bl ?_)
  | (with_reducible refine rd_notN_non ?_) | (with_reducible refine rd_notN_int ?_) | (with_reducible refine rd_notN_str ?_) | (with_reducible refine rd_notN_ref ?_)
  | (with_reducible refine rd_abs ?_) | (with_reducible refine rd_max ?_) | (with_reducible refine rd_min ?_) | (with_reducible refine rd_int ?_) | (with_reducible refine rd_ord ?_)
  | (with_reducible refine rd_inS ?_) | (with_reducible refine rd_notinS ?_)
  | (with_reducible refine iteT ?_) | (with_reducible refine iteF ?_) | (with_reducible refine rd_nT ?_) | (with_reducible refine rd_nF ?_)
  | (with_reducible refine rd_for ?_) | (with_reducible refine rd_lc ?_) | (with_reducible refine rd_iStr ?_) | (with_reducible refine rd_rng1 ?_) | (with_reducible refine rd_rngN (by omega) ?_; rw [Int.toNat_natCast]) | (with_reducible refine rd_rngI (by omega) ?_) | (with_reducible refine rd_lenA (sz _ (by omega)) ?_)
  | (with_reducible refine rd_mod (by omega) ?_) | (with_reducible refine rd_div (by omega) (by omega) ?_) | (with_reducible refine rd_mulR (by omega) (by omega) ?_) | (with_reducible refine rd_mulL (by omega) (by omega) ?_) | (with_reducible refine rd_pow (by decide) (by decide +kernel) ?_)
  | (with_reducible refine rd_xf ?_)
  | (with_reducible refine rd_raiseErr ?_) | (with_reducible refine rd_iList ?_)
  | (with_reducible refine ⟨_, rfl, ?_⟩))
local macro_rules | `(tactic| walk_at "rd1") => `(tactic| first | (with_reducible refine rd_seq ?_) | walk_at "rs1")
local macro_rules | `(tactic| walk_at "rs") => `(tactic| (repeat (walk_at "rs1")))
local macro_rules | `(tactic| walk_at "rd") => `(tactic| (repeat (walk_at "rd1")))

section
variable {P : Program} {w : World} {K : PySem.W.Frag} {mg : Str → Option Value} {base : Heap} {A : Nat → Addr} {D : Nat → FuncData}
/-! ### law -/
def scalar : PyData → Prop
  | .none => True
  | .bool _ => True
  | .int _ => True
  | .str _ => True
  | _ => False
theorem scalar_dep : ∀ {d : PyData}, scalar d → dep 2 d
  | .none, _ => trivial
  | .bool _, _ => trivial
  | .int _, _ => trivial
  | .str _, _ => trivial
theorem dep_told {dw : PyData} (h : scalar dw) (r : Rs) (hl : ∀ xs, r = .lines xs → xs.length ≤ 2) : dep 3 (told dw r) := by
  cases r with
  | badText => exact ⟨fun d hd => by simp at hd; rcases hd with rfl | rfl | rfl <;> trivial, by simp⟩
  | badWidth => exact ⟨fun d hd => by simp at hd; rcases hd with rfl | rfl | rfl <;> first | trivial | exact scalar_dep h, by simp⟩
  | wide l => exact ⟨fun d hd => by simp at hd; rcases hd with rfl | rfl | rfl <;> trivial, by simp⟩
  | lines xs =>
    refine ⟨fun d hd => ?_, by simp⟩
    simp at hd
    rcases hd with rfl | rfl
    · trivial
    · refine ⟨fun d hd => ?_, ?_⟩
      · rw [List.mem_map] at hd
        obtain ⟨x, _, rfl⟩ := hd
        trivial
      · have := hl xs rfl
        rw [List.length_map]
        omega
theorem lay_two {a : List Nat} {W : Nat} {xs : List (List Nat)} (h : lay a W = .lines xs) : xs.length ≤ 2 := by
  unfold lay at h
  by_cases h1 : a.length ≤ W
  · rw [if_pos h1] at h
    injection h with h
    rw [← h]
    simp
  · rw [if_neg h1] at h
    cases hb : bestOf a.length W (blanks a) with
    | none =>
      rw [hb] at h
      cases h
    | some k =>
      rw [hb] at h
      injection h with h
      rw [← h]
      simp
theorem dep_lay (a : List Nat) (W W' : Nat) : dep 3 (told (.int W') (lay a W)) := dep_told (dw := .int W') trivial _ fun _ h => lay_two h
theorem two_bad {d dw : PyData} (h : plainD d = false) : two d dw = .badText := by
  unfold two
  rw [if_pos h]
theorem two_badW {d dw : PyData} (h : plainD d = true) (h2 : isIn dw 1 60 = false) : two d dw = .badWidth := by
  unfold two
  rw [if_neg (by rw [h]; decide), if_pos h2]
theorem plainSize {x : List Nat} (hx : x.length ≤ 60) : ∀ s, strD x = .str s → s.length ≤ 1000 := fun s e => by
  have e2 : SX.S x = s := by injection e
  rw [← e2, SX.S_len]
  omega
def sp_law (K : PySem.W.Frag) : Sp := fun vs H Q _ => ∃ (s : Addr) (ns : List Int), vs = [.ref s] ∧ SqL K H s (ns.map V.int) ∧ ns.length ≤ 63 ∧ ∀ H', Q (.bl true) H'
theorem ok_law (T : Txt P K mg A D) : FnOk P w K mg base CX0 5 (A 17) (D 17) ["_law_script"] (sp_law K) := by
  refine T.F_law.ok sc_law (fun vs H Q E h => ?_) (fun cdv B outer s H vs Q E hr h => ?_)
  · obtain ⟨s, ns, rfl, _⟩ := h
    rfl
  obtain ⟨s', ns, rfl, hs, hl, q⟩ := h
  refine ⟨_, (pss_cons (ps_set (i := 1) sc_law.nd rfl (Or.inl rfl) (pe_call (ok_law_tape T) (hr.mono (by decide)) (by rfl) T.m_law_tape T.k_law_tape T.b_law_tape .nil pass0 (pa_cons (pv 0) pa_nil)))
        (pss_cons (ps_set (i := 2) sc_law.nd rfl (Or.inl rfl) (pe_call (ok_law_wide_text T) (hr.mono (by decide)) (by rfl) T.m_law_wide_text T.k_law_wide_text T.b_law_wide_text .nil pass0 (pa_cons (pv 1) pa_nil)))
        (pss_cons (ps_set (i := 3) sc_law.nd rfl (Or.inl rfl) (pe_call (ok_law_width T) (hr.mono (by decide)) (by rfl) T.m_law_width T.k_law_width T.b_law_width .nil pass0 (pa_cons (pv 1) (pa_cons (pv 2) pa_nil))))
        (pss_cons (ps_set (i := 4) sc_law.nd rfl (Or.inl rfl) (pe_call (ok_law_wide_text T) (hr.mono (by decide)) (by rfl) T.m_law_wide_text T.k_law_wide_text T.b_law_wide_text .nil pass0 (pa_cons (pv 1) pa_nil)))
        (pss_cons (ps_set (i := 5) sc_law.nd rfl (Or.inl rfl) (pe_call (ok_law_width T) (hr.mono (by decide)) (by rfl) T.m_law_width T.k_law_width T.b_law_width .nil pass0 (pa_cons (pv 1) (pa_cons (pv 4) pa_nil))))
        (pss_cons (ps_set (i := 6) sc_law.nd rfl (Or.inl rfl) (pe_call (ok_law_due T) (hr.mono (by decide)) (by rfl) T.m_law_due T.k_law_due T.b_law_due .nil pass0 (pa_cons (pv 2) (pa_cons (pv 3) pa_nil))))
        (pss_cons (ps_if (pt_not (pt_val (pe_call (ok_law_same T 3) (hr.mono (by decide)) (by rfl) T.m_law_same T.k_law_same T.b_law_same .nil pass0 (pa_cons (pe_call (ok_law_told T) (hr.mono (by decide)) (by rfl) T.m_law_told T.k_law_told T.b_law_told .nil pass0 (pa_cons (pv 2) (pa_cons (pv 3) pa_nil))) (pa_cons (pv 6) pa_nil))))) (pss_one (ps_ret pe_bl)) pss_nil)
        (pss_cons (ps_if (pt_not (pt_val (pe_call (ok_law_same T 3) (hr.mono (by decide)) (by rfl) T.m_law_same T.k_law_same T.b_law_same .nil pass0 (pa_cons (pe_call (ok_law_told T) (hr.mono (by decide)) (by rfl) T.m_law_told T.k_law_told T.b_law_told .nil pass0 (pa_cons (pv 4) (pa_cons (pv 5) pa_nil))) (pa_cons (pe_call (ok_law_due T) (hr.mono (by decide)) (by rfl) T.m_law_due T.k_law_due T.b_law_due .nil pass0 (pa_cons (pv 4) (pa_cons (pv 5) pa_nil))) pa_nil))))) (pss_one (ps_ret pe_bl)) pss_nil)
        (pss_cons (ps_if (pt_not (pt_val (pe_call (ok_law_same T 3) (hr.mono (by decide)) (by rfl) T.m_law_same T.k_law_same T.b_law_same .nil pass0 (pa_cons (pe_call (ok_law_told T) (hr.mono (by decide)) (by rfl) T.m_law_told T.k_law_told T.b_law_told .nil pass0 (pa_cons (pv 2) (pa_cons (pv 3) pa_nil))) (pa_cons (pv 6) pa_nil))))) (pss_one (ps_ret pe_bl)) pss_nil)
        (pss_cons (ps_set (i := 7) sc_law.nd rfl (Or.inl rfl) (pe_call (ok_law_least T) (hr.mono (by decide)) (by rfl) T.m_law_least T.k_law_least T.b_law_least .nil pass0 (pa_cons (pv 2) pa_nil)))
        (pss_cons (ps_if (pt_not (pt_val (pe_call (ok_law_same T 3) (hr.mono (by decide)) (by rfl) T.m_law_same T.k_law_same T.b_law_same .nil pass0 (pa_cons (pe_call (ok_law_told T) (hr.mono (by decide)) (by rfl) T.m_law_told T.k_law_told T.b_law_told .nil pass0 (pa_cons (pv 2) (pa_cons (pv 7) pa_nil))) (pa_cons (pe_call (ok_law_due T) (hr.mono (by decide)) (by rfl) T.m_law_due T.k_law_due T.b_law_due .nil pass0 (pa_cons (pv 2) (pa_cons (pv 7) pa_nil))) pa_nil))))) (pss_one (ps_ret pe_bl)) pss_nil)
        (pss_cons (ps_if (PW.pt (pw_and (pt_cmpR op_gt (pv 7) pe_int (nomark _)) (pw_and1 (pt_not (pt_val (pe_call (ok_law_same T 3) (hr.mono (by decide)) (by rfl) T.m_law_same T.k_law_same T.b_law_same .nil pass0 (pa_cons (pe_call (ok_law_told T) (hr.mono (by decide)) (by rfl) T.m_law_told T.k_law_told T.b_law_told .nil pass0 (pa_cons (pv 2) (pa_cons (pe_op op_sub (pv 7) pe_int) pa_nil))) (pa_cons (pe_tup (pa_cons pe_str (pa_cons (pv 7) (pa_cons pe_bl pa_nil)))) pa_nil)))))))) (pss_one (ps_ret pe_bl)) pss_nil)
        (pss_cons (ps_set (i := 8) sc_law.nd rfl (Or.inl rfl) (pe_call (ok_law_no_text T) (hr.mono (by decide)) (by rfl) T.m_law_no_text T.k_law_no_text T.b_law_no_text .nil pass0 (pa_cons (pv 1) (pa_cons (pv 2) pa_nil))))
        (pss_cons (ps_set (i := 9) sc_law.nd rfl (Or.inl rfl) (pe_ix (ix_listK (K := K) rfl) (pe_lst (pa_cons pe_int (pa_cons pe_int (pa_cons (pe_un un_neg pe_int) (pa_cons (pe_op op_powB pe_int pe_int) (pa_cons pe_non (pa_cons pe_bl (pa_cons pe_str (pa_cons pe_bl pa_nil))))))))) (pe_call (ok_law_pick T) (hr.mono (by decide)) (by rfl) T.m_law_pick T.k_law_pick T.b_law_pick .nil pass0 (pa_cons (pv 1) (pa_cons pe_int pa_nil))) (fun _ _ => rfl)))
        (pss_cons (ps_if (pt_not (pt_val (pe_call (ok_law_same T 3) (hr.mono (by decide)) (by rfl) T.m_law_same T.k_law_same T.b_law_same .nil pass0 (pa_cons (pe_call (ok_law_told T) (hr.mono (by decide)) (by rfl) T.m_law_told T.k_law_told T.b_law_told .nil pass0 (pa_cons (pv 8) (pa_cons (pv 3) pa_nil))) (pa_cons (pe_tup (pa_cons pe_str (pa_cons (pe_un un_neg pe_int) (pa_cons pe_bl pa_nil)))) pa_nil))))) (pss_one (ps_ret pe_bl)) pss_nil)
        (pss_cons (ps_if (pt_not (pt_val (pe_call (ok_law_same T 3) (hr.mono (by decide)) (by rfl) T.m_law_same T.k_law_same T.b_law_same .nil pass0 (pa_cons (pe_call (ok_law_told T) (hr.mono (by decide)) (by rfl) T.m_law_told T.k_law_told T.b_law_told .nil pass0 (pa_cons (pv 8) (pa_cons (pv 9) pa_nil))) (pa_cons (pe_tup (pa_cons pe_str (pa_cons (pe_un un_neg pe_int) (pa_cons pe_bl pa_nil)))) pa_nil))))) (pss_one (ps_ret pe_bl)) pss_nil)
        (pss_cons (ps_if (pt_not (pt_val (pe_call (ok_law_same T 3) (hr.mono (by decide)) (by rfl) T.m_law_same T.k_law_same T.b_law_same .nil pass0 (pa_cons (pe_call (ok_law_told T) (hr.mono (by decide)) (by rfl) T.m_law_told T.k_law_told T.b_law_told .nil pass0 (pa_cons (pv 2) (pa_cons (pv 9) pa_nil))) (pa_cons (pe_tup (pa_cons pe_str (pa_cons (pv 9) (pa_cons pe_bl pa_nil)))) pa_nil))))) (pss_one (ps_ret pe_bl)) pss_nil)
        (pss_one (ps_ret (pe_and (pe_call (ok_law_base T) (hr.mono (by decide)) (by rfl) T.m_law_base T.k_law_base T.b_law_base .nil pass0 (pa_cons (pv 8) (pa_cons (pv 3) pa_nil))) (pe_one (pe_call (ok_law_base T) (hr.mono (by decide)) (by rfl) T.m_law_base T.k_law_base T.b_law_base .nil pass0 (pa_cons (pv 2) (pa_cons (pv 9) pa_nil)))))))))))))))))))))))), ?_⟩
  refine rd_start (σ := [some (.ref s'), none, none, none, none, none, none, none, none, none]) rfl ?_
  walk_at "rd"
  refine ⟨s', ns, rfl, hs, by omega, fun a c H1 e1 k1 => ?_⟩
  walk_at "rd"
  refine ⟨a, c, rfl, k1, fun x H2 hx f2 k2 => ?_⟩
  obtain ⟨xj, xok, xn, xz⟩ := jn_plain hx
  walk_at "rd"
  refine ⟨a, c, x, rfl, xz, k2, fun m H3 m1 m2 f3 k3 => ?_⟩
  walk_at "rd"
  refine ⟨a, c, rfl, k3, fun y H4 hy f4 k4 => ?_⟩
  obtain ⟨yj, yok, yn, yz⟩ := jn_plain hy
  walk_at "rd"
  refine ⟨a, c, y, rfl, yz, k4, fun m' H5 m1' m2' f5 k5 => ?_⟩
  walk_at "rd"
  refine ⟨x, m, rfl, xz, fun v1 H6 e6 d1 => ?_⟩
  walk_at "rd"
  refine ⟨_, strD x, _, .int m, rfl, .str _, .int _, plainSize xz, fun v2 H7 e7 d2 => ?_⟩
  rw [two_lay hx m1 m2] at d2
  walk_at "rd"
  refine ⟨_, _, _, rfl, d2, d1.mono e7, dep_lay x m m, fun H8 e8 => ?_⟩
  have d1 := d1.mono (e7.trans e8)
  walk_at "rd"
  refine ⟨_, strD y, _, .int m', rfl, .str _, .int _, plainSize yz, fun v3 H9 e9 d3 => ?_⟩
  rw [two_lay hy m1' m2'] at d3
  walk_at "rd"
  refine ⟨y, m', rfl, yz, fun v4 H10 e10 d4 => ?_⟩
  walk_at "rd"
  refine ⟨_, _, _, rfl, d3.mono e10, d4, dep_lay y m' m', fun H11 e11 => ?_⟩
  have d1 := d1.mono (e9.trans (e10.trans e11))
  walk_at "rd"
  refine ⟨_, strD x, _, .int m, rfl, .str _, .int _, plainSize xz, fun v5 H12 e12 d5 => ?_⟩
  rw [two_lay hx m1 m2] at d5
  walk_at "rd"
  refine ⟨_, _, _, rfl, d5, d1.mono e12, dep_lay x m m, fun H13 e13 => ?_⟩
  walk_at "rd"
  refine ⟨x, rfl, xz, ?_⟩
  walk_at "rd"
  have L1 := least_pos hx
  have L2 := least_le x
  refine ⟨_, strD x, _, .int (Least x), rfl, .str _, .int _, plainSize xz, fun v6 H14 e14 d6 => ?_⟩
  rw [two_lay hx L1 (by omega)] at d6
  walk_at "rd"
  refine ⟨x, Least x, rfl, xz, fun v7 H15 e15 d7 => ?_⟩
  walk_at "rd"
  refine ⟨_, _, _, rfl, d6.mono e15, d7, dep_lay x _ _, fun H16 e16 => ?_⟩
  have E16 := e6.trans (e7.trans (e8.trans (e9.trans (e10.trans (e11.trans (e12.trans (e13.trans (e14.trans (e15.trans e16)))))))))
  have k16 : Ok (some (a, c)) H16 := by
    obtain ⟨n, cells, p', cur, st, ex, h1, h2, h3⟩ := k5
    exact ⟨n, cells, p', cur, st, ex, E16 _ _ h1, E16 _ _ h2, h3⟩
  clear E16 e6 e7 e8 e9 e10 e11 e12 e13 e14 e15 e16 d1 d2 d3 d4 d5 d6 d7
  walk_at "rs"
  refine rd_cut (fun σ' H' => σ' = [some (.ref s'), some (.ref a), some (.str (SX.S x)), some (.int m), some (.str (SX.S y)), some (.int m'), some v1, some (.int (Least x)), none, none] ∧ Ok (some (a, c)) H') ?_ (fun nx hnx => ?_)
  · rintro _ H17 ⟨rfl, k17⟩
    walk_at "rd"
    refine ⟨a, c, x, rfl, hx, k17, fun vb db H18 hpd hbs stab f18 k18 => ?_⟩
    walk_at "rd"
    refine ⟨sz _ (by simp), fun p hp => ?_⟩
    walk_at "rd"
    refine ⟨a, c, 8, rfl, k18.new hp, by omega, fun e H19 e1 e2 f19 k19 => ?_⟩
    have np : ¬ moved (some (a, c)) p := k18.fresh hp
    have at19 := f19 p _ np upd_same
    have f1819 := (Fr.new (H' := H18) k18 (Fr.refl _ H18) hp).trans f19
    have D19 := stab H19 f1819
    have stab2 : ∀ H'', Same H19 H'' → Dp K H'' vb db := fun H'' e => stab H'' (f1819.trans e.fr)
    obtain ⟨vw, dw, ew, hw, hin, hsc⟩ : ∃ (vw : V) (dw : PyData), atI [V.int 0, V.int 61, V.int (-1), V.int (10 ^ Int.toNat 39), V.non, V.bl true, V.str (Str.ofString "12"), V.bl false] e = some vw ∧ (∀ H, Dp K H vw dw) ∧ isIn dw 1 60 = false ∧ scalar dw := by
      have ce : e = 0 ∨ e = 1 ∨ e = 2 ∨ e = 3 ∨ e = 4 ∨ e = 5 ∨ e = 6 ∨ e = 7 := by omega
      rcases ce with rfl | rfl | rfl | rfl | rfl | rfl | rfl | rfl
      · exact ⟨_, .int 0, rfl, fun _ => .int _, rfl, trivial⟩
      · exact ⟨_, .int 61, rfl, fun _ => .int _, rfl, trivial⟩
      · exact ⟨_, .int (-1), rfl, fun _ => .int _, rfl, trivial⟩
      · exact ⟨_, .int (10 ^ Int.toNat 39), rfl, fun _ => .int _, by decide +kernel, trivial⟩
      · exact ⟨_, .none, rfl, fun _ => .non, rfl, trivial⟩
      · exact ⟨_, .bool true, rfl, fun _ => .bl _, rfl, trivial⟩
      · exact ⟨_, .str "12", rfl, fun _ => .str _, rfl, trivial⟩
      · exact ⟨_, .bool false, rfl, fun _ => .bl _, rfl, trivial⟩
    refine rd_ixL (sqL_of at19) ew ?_
    walk_at "rd"
    have dT : ∀ xs, Rs.badText = .lines xs → xs.length ≤ 2 := fun xs h => nomatch h
    have dW : ∀ xs, Rs.badWidth = .lines xs → xs.length ≤ 2 := fun xs h => nomatch h
    refine ⟨_, db, _, .int m, rfl, D19, .int _, hbs, fun v2 H20 e20 d2 => ?_⟩
    rw [two_bad hpd] at d2
    walk_at "rd"
    refine ⟨sz _ (by simp), fun q1 hq1 => ?_⟩
    walk_at "rd"
    refine ⟨_, _, _, rfl, d2.mono (Same.upd hq1), .tup (sqT_of upd_same) (.cons (.str _) (.cons (.int _) (.cons (.bl _) .nil))), dep_told (dw := .int m) trivial _ dT, fun H21 e21 => ?_⟩
    have E21 := e20.trans ((Same.upd hq1).trans e21)
    walk_at "rd"
    refine ⟨_, db, _, dw, rfl, stab2 _ E21, hw _, hbs, fun v3 H22 e22 d3 => ?_⟩
    rw [two_bad hpd] at d3
    walk_at "rd"
    refine ⟨sz _ (by simp), fun q2 hq2 => ?_⟩
    walk_at "rd"
    refine ⟨_, _, _, rfl, d3.mono (Same.upd hq2), .tup (sqT_of upd_same) (.cons (.str _) (.cons (.int _) (.cons (.bl _) .nil))), dep_told (dw := .int m) trivial _ dT, fun H23 e23 => ?_⟩
    have E23 := E21.trans (e22.trans ((Same.upd hq2).trans e23))
    walk_at "rd"
    refine ⟨_, strD x, _, dw, rfl, .str _, hw _, plainSize xz, fun v4 H24 e24 d4 => ?_⟩
    rw [two_badW (d := strD x) hx hin] at d4
    walk_at "rd"
    refine ⟨sz _ (by simp), fun q3 hq3 => ?_⟩
    walk_at "rd"
    refine ⟨_, _, _, rfl, d4.mono (Same.upd hq3), .tup (sqT_of upd_same) (.cons (.str _) (.cons (hw _) (.cons (.bl _) .nil))), dep_told hsc _ dW, fun H25 e25 => ?_⟩
    have E25 := E23.trans (e24.trans ((Same.upd hq3).trans e25))
    walk_at "rd"
    refine ⟨_, db, _, .int m, rfl, stab2 _ E25, .int _, hbs, .inl (two_bad hpd), fun H26 => ?_⟩
    walk_at "rd"
    exact ⟨_, strD x, _, dw, rfl, .str _, hw _, plainSize xz, .inr (two_badW (d := strD x) hx hin), fun H27 => q H27⟩
  · walk_at "rs"
    refine ite2 (fun h1 => ?_) (fun h1 => ?_)
    · have h1 := of_decide_eq_true h1
      walk_at "rs"
      obtain ⟨l, hl'⟩ : ∃ l : Nat, Least x = l + 1 := ⟨Least x - 1, by omega⟩
      refine ⟨_, strD x, _, .int l, ?_, .str _, .int _, plainSize xz, fun v6 H17 e17 d6 => ?_⟩
      · rw [hl']
        show [_, V.int (((l + 1 : Nat) : Int) - 1)] = _
        rw [show ((l + 1 : Nat) : Int) - 1 = l by omega]
      rw [two_lay hx (by omega) (by omega), lay_under (by omega)] at d6
      walk_at "rs"
      refine ⟨sz _ (by simp), fun q3 hq3 => ?_⟩
      walk_at "rs"
      refine ⟨_, _, _, rfl, d6.mono (Same.upd hq3), .tup (sqT_of upd_same) (.cons (.str _) (.cons (.int _) (.cons (.bl _) .nil))), dep_told (dw := .int l) trivial _ (fun xs h => nomatch h), fun H18 e18 => ?_⟩
      walk_at "rs"
      refine hnx _ _ ⟨rfl, ?_⟩
      have E18 := e17.trans ((Same.upd hq3).trans e18)
      obtain ⟨n, cells, p', cur, st, ex, h1, h2, h3⟩ := k16
      exact ⟨n, cells, p', cur, st, ex, E18 _ _ h1, E18 _ _ h2, h3⟩
    · walk_at "rs"
      exact hnx _ _ ⟨rfl, k16⟩

end
end K
namespace K
open PySem PySem.Spec PyProof.Rows L2
theorem all_mk {l : PySem.W.OpenLaw} {P : Program} (hP : l.prog = P) {w : World} {K : PySem.W.Frag} {h : Heap} {mg : Str → Option Value} {fa : Addr} (X : K.In h) (G : h.Ns mainGlobals mg) (hfa : mg "law" = some (.ref fa))
    {f_is_integer f_plain_text f_breaks f_wider f_two_lines f_law_tape f_law_pick f_law_some f_law_text f_law_same f_law_wide_text f_law_least f_law_width f_law_due f_law_told f_law_base f_law_no_text f_law C_BadText I_BadText C_BadWidth I_BadWidth C_TooWide I_TooWide C_CaptionError : Addr}
    {oc_is_integer kV_is_integer dc_is_integer pm_is_integer cd_is_integer ct_is_integer : Value} {od_is_integer an_is_integer : Option Addr} {sl_is_integer : Array (Option Value)}
    {T_is_integer : Addr} {tc_is_integer : Value} {td_is_integer : Option Addr} {tn_is_integer : Nat} {ts_is_integer : Array (Option Value)}
    {oc_plain_text kV_plain_text dc_plain_text pm_plain_text cd_plain_text ct_plain_text : Value} {od_plain_text an_plain_text : Option Addr} {sl_plain_text : Array (Option Value)}
    {oc_breaks kV_breaks dc_breaks pm_breaks cd_breaks ct_breaks : Value} {od_breaks an_breaks : Option Addr} {sl_breaks : Array (Option Value)}
    {oc_wider kV_wider dc_wider pm_wider cd_wider ct_wider : Value} {od_wider an_wider : Option Addr} {sl_wider : Array (Option Value)}
    {oc_two_lines kV_two_lines dc_two_lines pm_two_lines cd_two_lines ct_two_lines : Value} {od_two_lines an_two_lines : Option Addr} {sl_two_lines : Array (Option Value)}
    {oc_law_tape kV_law_tape dc_law_tape pm_law_tape cd_law_tape ct_law_tape : Value} {od_law_tape an_law_tape : Option Addr} {sl_law_tape : Array (Option Value)}
    {oc_law_pick kV_law_pick dc_law_pick pm_law_pick cd_law_pick ct_law_pick : Value} {od_law_pick an_law_pick : Option Addr} {sl_law_pick : Array (Option Value)}
    {oc_law_some kV_law_some dc_law_some pm_law_some cd_law_some ct_law_some : Value} {od_law_some an_law_some : Option Addr} {sl_law_some : Array (Option Value)}
    {oc_law_text kV_law_text dc_law_text pm_law_text cd_law_text ct_law_text : Value} {od_law_text an_law_text : Option Addr} {sl_law_text : Array (Option Value)}
    {oc_law_same kV_law_same dc_law_same pm_law_same cd_law_same ct_law_same : Value} {od_law_same an_law_same : Option Addr} {sl_law_same : Array (Option Value)}
    {oc_law_wide_text kV_law_wide_text dc_law_wide_text pm_law_wide_text cd_law_wide_text ct_law_wide_text : Value} {od_law_wide_text an_law_wide_text : Option Addr} {sl_law_wide_text : Array (Option Value)}
    {oc_law_least kV_law_least dc_law_least pm_law_least cd_law_least ct_law_least : Value} {od_law_least an_law_least : Option Addr} {sl_law_least : Array (Option Value)}
    {oc_law_width kV_law_width dc_law_width pm_law_width cd_law_width ct_law_width : Value} {od_law_width an_law_width : Option Addr} {sl_law_width : Array (Option Value)}
    {oc_law_due kV_law_due dc_law_due pm_law_due cd_law_due ct_law_due : Value} {od_law_due an_law_due : Option Addr} {sl_law_due : Array (Option Value)}
    {oc_law_told kV_law_told dc_law_told pm_law_told cd_law_told ct_law_told : Value} {od_law_told an_law_told : Option Addr} {sl_law_told : Array (Option Value)}
    {oc_law_base kV_law_base dc_law_base pm_law_base cd_law_base ct_law_base : Value} {od_law_base an_law_base : Option Addr} {sl_law_base : Array (Option Value)}
    {oc_law_no_text kV_law_no_text dc_law_no_text pm_law_no_text cd_law_no_text ct_law_no_text : Value} {od_law_no_text an_law_no_text : Option Addr} {sl_law_no_text : Array (Option Value)}
    {oc_law kV_law dc_law pm_law cd_law ct_law : Value} {od_law an_law : Option Addr} {sl_law : Array (Option Value)}
    {nm_BadText qn_BadText : Str} {N_BadText : Addr} {bs_BadText bm_BadText sb_BadText : List Value} {sn_BadText : List Str} {ab_BadText : Bool} {col_BadText : Option Bool} {dd_BadText : Option Addr} {q0_BadText q1_BadText q2_BadText q3_BadText q5_BadText : Option Value}
    {oc_BadText kV_BadText dc_BadText pm_BadText ct_BadText : Value} {od_BadText an_BadText : Option Addr} {osl_BadText : Array (Option Value)} {cda_BadText cc_BadText : Addr} {ccl_BadText cl_BadText : Value} {cdd_BadText cld_BadText : Option Addr} {vs_BadText : Array Value} {ccs_BadText csl_BadText : Array (Option Value)} {file_BadText : Str} {tf_BadText : Tok}
    {nm_BadWidth qn_BadWidth : Str} {N_BadWidth : Addr} {bs_BadWidth bm_BadWidth sb_BadWidth : List Value} {sn_BadWidth : List Str} {ab_BadWidth : Bool} {col_BadWidth : Option Bool} {dd_BadWidth : Option Addr} {q0_BadWidth q1_BadWidth q2_BadWidth q3_BadWidth q5_BadWidth : Option Value}
    {oc_BadWidth kV_BadWidth dc_BadWidth pm_BadWidth ct_BadWidth : Value} {od_BadWidth an_BadWidth : Option Addr} {osl_BadWidth : Array (Option Value)} {cda_BadWidth cc_BadWidth : Addr} {ccl_BadWidth cl_BadWidth : Value} {cdd_BadWidth cld_BadWidth : Option Addr} {vs_BadWidth : Array Value} {ccs_BadWidth csl_BadWidth : Array (Option Value)} {file_BadWidth : Str} {tf_BadWidth : Tok}
    {nm_TooWide qn_TooWide : Str} {N_TooWide : Addr} {bs_TooWide bm_TooWide sb_TooWide : List Value} {sn_TooWide : List Str} {ab_TooWide : Bool} {col_TooWide : Option Bool} {dd_TooWide : Option Addr} {q0_TooWide q1_TooWide q2_TooWide q3_TooWide q5_TooWide : Option Value}
    {oc_TooWide kV_TooWide dc_TooWide pm_TooWide ct_TooWide : Value} {od_TooWide an_TooWide : Option Addr} {osl_TooWide : Array (Option Value)} {cda_TooWide cc_TooWide : Addr} {ccl_TooWide cl_TooWide : Value} {cdd_TooWide cld_TooWide : Option Addr} {vs_TooWide : Array Value} {ccs_TooWide csl_TooWide : Array (Option Value)} {file_TooWide : Str} {tf_TooWide : Tok}
    (z_len : PySem.W.nsIn K mainGlobals "len" = some none)
    (z_range : PySem.W.nsIn K mainGlobals "range" = some none)
    (z_isinstance : PySem.W.nsIn K mainGlobals "isinstance" = some none)
    (z_int : PySem.W.nsIn K mainGlobals "int" = some none)
    (z_str : PySem.W.nsIn K mainGlobals "str" = some none)
    (z_bool : PySem.W.nsIn K mainGlobals "bool" = some none)
    (z_tuple : PySem.W.nsIn K mainGlobals "tuple" = some none)
    (z_ValueError : PySem.W.nsIn K mainGlobals "ValueError" = some none)
    (z_all : PySem.W.nsIn K mainGlobals "all" = some none)
    (z_ord : PySem.W.nsIn K mainGlobals "ord" = some none)
    (z_max : PySem.W.nsIn K mainGlobals "max" = some none)
    (z_min : PySem.W.nsIn K mainGlobals "min" = some none)
    (z_abs : PySem.W.nsIn K mainGlobals "abs" = some none)
    (z_super : PySem.W.nsIn K mainGlobals "super" = some none)
    (a_is_integer : PySem.W.nsIn K mainGlobals "is_integer" = some (some (.ref f_is_integer)))
    (l_is_integer : K.lookup f_is_integer = some ⟨oc_is_integer, od_is_integer, .func (PySem.W.fnOf "is_integer" "is_integer" (defArgs s_is_integer) (defBody s_is_integer) (defScope s_is_integer) (.ref T_is_integer) kV_is_integer dc_is_integer pm_is_integer an_is_integer cd_is_integer ct_is_integer), sl_is_integer⟩)
    (c_is_integer : PySem.W.codeIn K cd_is_integer "is_integer" = true)
    (k_is_integer : PySem.W.keepIn K (.ref f_is_integer) = true)
    (t_is_integer : K.lookup T_is_integer = some ⟨tc_is_integer, td_is_integer, .seq [.none].toArray tn_is_integer, ts_is_integer⟩)
    (a_plain_text : PySem.W.nsIn K mainGlobals "plain_text" = some (some (.ref f_plain_text)))
    (l_plain_text : K.lookup f_plain_text = some ⟨oc_plain_text, od_plain_text, .func (PySem.W.fnOf "plain_text" "plain_text" (defArgs s_plain_text) (defBody s_plain_text) (defScope s_plain_text) .none kV_plain_text dc_plain_text pm_plain_text an_plain_text cd_plain_text ct_plain_text), sl_plain_text⟩)
    (c_plain_text : PySem.W.codeIn K cd_plain_text "plain_text" = true)
    (k_plain_text : PySem.W.keepIn K (.ref f_plain_text) = true)
    (a_breaks : PySem.W.nsIn K mainGlobals "breaks" = some (some (.ref f_breaks)))
    (l_breaks : K.lookup f_breaks = some ⟨oc_breaks, od_breaks, .func (PySem.W.fnOf "breaks" "breaks" (defArgs s_breaks) (defBody s_breaks) (defScope s_breaks) .none kV_breaks dc_breaks pm_breaks an_breaks cd_breaks ct_breaks), sl_breaks⟩)
    (c_breaks : PySem.W.codeIn K cd_breaks "breaks" = true)
    (k_breaks : PySem.W.keepIn K (.ref f_breaks) = true)
    (a_wider : PySem.W.nsIn K mainGlobals "wider" = some (some (.ref f_wider)))
    (l_wider : K.lookup f_wider = some ⟨oc_wider, od_wider, .func (PySem.W.fnOf "wider" "wider" (defArgs s_wider) (defBody s_wider) (defScope s_wider) .none kV_wider dc_wider pm_wider an_wider cd_wider ct_wider), sl_wider⟩)
    (c_wider : PySem.W.codeIn K cd_wider "wider" = true)
    (k_wider : PySem.W.keepIn K (.ref f_wider) = true)
    (a_two_lines : PySem.W.nsIn K mainGlobals "two_lines" = some (some (.ref f_two_lines)))
    (l_two_lines : K.lookup f_two_lines = some ⟨oc_two_lines, od_two_lines, .func (PySem.W.fnOf "two_lines" "two_lines" (defArgs s_two_lines) (defBody s_two_lines) (defScope s_two_lines) .none kV_two_lines dc_two_lines pm_two_lines an_two_lines cd_two_lines ct_two_lines), sl_two_lines⟩)
    (c_two_lines : PySem.W.codeIn K cd_two_lines "two_lines" = true)
    (k_two_lines : PySem.W.keepIn K (.ref f_two_lines) = true)
    (a_law_tape : PySem.W.nsIn K mainGlobals "_law_tape" = some (some (.ref f_law_tape)))
    (l_law_tape : K.lookup f_law_tape = some ⟨oc_law_tape, od_law_tape, .func (PySem.W.fnOf "_law_tape" "_law_tape" (defArgs s_law_tape) (defBody s_law_tape) (defScope s_law_tape) .none kV_law_tape dc_law_tape pm_law_tape an_law_tape cd_law_tape ct_law_tape), sl_law_tape⟩)
    (c_law_tape : PySem.W.codeIn K cd_law_tape "_law_tape" = true)
    (k_law_tape : PySem.W.keepIn K (.ref f_law_tape) = true)
    (a_law_pick : PySem.W.nsIn K mainGlobals "_law_pick" = some (some (.ref f_law_pick)))
    (l_law_pick : K.lookup f_law_pick = some ⟨oc_law_pick, od_law_pick, .func (PySem.W.fnOf "_law_pick" "_law_pick" (defArgs s_law_pick) (defBody s_law_pick) (defScope s_law_pick) .none kV_law_pick dc_law_pick pm_law_pick an_law_pick cd_law_pick ct_law_pick), sl_law_pick⟩)
    (c_law_pick : PySem.W.codeIn K cd_law_pick "_law_pick" = true)
    (k_law_pick : PySem.W.keepIn K (.ref f_law_pick) = true)
    (a_law_some : PySem.W.nsIn K mainGlobals "_law_some" = some (some (.ref f_law_some)))
    (l_law_some : K.lookup f_law_some = some ⟨oc_law_some, od_law_some, .func (PySem.W.fnOf "_law_some" "_law_some" (defArgs s_law_some) (defBody s_law_some) (defScope s_law_some) .none kV_law_some dc_law_some pm_law_some an_law_some cd_law_some ct_law_some), sl_law_some⟩)
    (c_law_some : PySem.W.codeIn K cd_law_some "_law_some" = true)
    (k_law_some : PySem.W.keepIn K (.ref f_law_some) = true)
    (a_law_text : PySem.W.nsIn K mainGlobals "_law_text" = some (some (.ref f_law_text)))
    (l_law_text : K.lookup f_law_text = some ⟨oc_law_text, od_law_text, .func (PySem.W.fnOf "_law_text" "_law_text" (defArgs s_law_text) (defBody s_law_text) (defScope s_law_text) .none kV_law_text dc_law_text pm_law_text an_law_text cd_law_text ct_law_text), sl_law_text⟩)
    (c_law_text : PySem.W.codeIn K cd_law_text "_law_text" = true)
    (k_law_text : PySem.W.keepIn K (.ref f_law_text) = true)
    (a_law_same : PySem.W.nsIn K mainGlobals "_law_same" = some (some (.ref f_law_same)))
    (l_law_same : K.lookup f_law_same = some ⟨oc_law_same, od_law_same, .func (PySem.W.fnOf "_law_same" "_law_same" (defArgs s_law_same) (defBody s_law_same) (defScope s_law_same) .none kV_law_same dc_law_same pm_law_same an_law_same cd_law_same ct_law_same), sl_law_same⟩)
    (c_law_same : PySem.W.codeIn K cd_law_same "_law_same" = true)
    (k_law_same : PySem.W.keepIn K (.ref f_law_same) = true)
    (a_law_wide_text : PySem.W.nsIn K mainGlobals "_law_wide_text" = some (some (.ref f_law_wide_text)))
    (l_law_wide_text : K.lookup f_law_wide_text = some ⟨oc_law_wide_text, od_law_wide_text, .func (PySem.W.fnOf "_law_wide_text" "_law_wide_text" (defArgs s_law_wide_text) (defBody s_law_wide_text) (defScope s_law_wide_text) .none kV_law_wide_text dc_law_wide_text pm_law_wide_text an_law_wide_text cd_law_wide_text ct_law_wide_text), sl_law_wide_text⟩)
    (c_law_wide_text : PySem.W.codeIn K cd_law_wide_text "_law_wide_text" = true)
    (k_law_wide_text : PySem.W.keepIn K (.ref f_law_wide_text) = true)
    (a_law_least : PySem.W.nsIn K mainGlobals "_law_least" = some (some (.ref f_law_least)))
    (l_law_least : K.lookup f_law_least = some ⟨oc_law_least, od_law_least, .func (PySem.W.fnOf "_law_least" "_law_least" (defArgs s_law_least) (defBody s_law_least) (defScope s_law_least) .none kV_law_least dc_law_least pm_law_least an_law_least cd_law_least ct_law_least), sl_law_least⟩)
    (c_law_least : PySem.W.codeIn K cd_law_least "_law_least" = true)
    (k_law_least : PySem.W.keepIn K (.ref f_law_least) = true)
    (a_law_width : PySem.W.nsIn K mainGlobals "_law_width" = some (some (.ref f_law_width)))
    (l_law_width : K.lookup f_law_width = some ⟨oc_law_width, od_law_width, .func (PySem.W.fnOf "_law_width" "_law_width" (defArgs s_law_width) (defBody s_law_width) (defScope s_law_width) .none kV_law_width dc_law_width pm_law_width an_law_width cd_law_width ct_law_width), sl_law_width⟩)
    (c_law_width : PySem.W.codeIn K cd_law_width "_law_width" = true)
    (k_law_width : PySem.W.keepIn K (.ref f_law_width) = true)
    (a_law_due : PySem.W.nsIn K mainGlobals "_law_due" = some (some (.ref f_law_due)))
    (l_law_due : K.lookup f_law_due = some ⟨oc_law_due, od_law_due, .func (PySem.W.fnOf "_law_due" "_law_due" (defArgs s_law_due) (defBody s_law_due) (defScope s_law_due) .none kV_law_due dc_law_due pm_law_due an_law_due cd_law_due ct_law_due), sl_law_due⟩)
    (c_law_due : PySem.W.codeIn K cd_law_due "_law_due" = true)
    (k_law_due : PySem.W.keepIn K (.ref f_law_due) = true)
    (a_law_told : PySem.W.nsIn K mainGlobals "_law_told" = some (some (.ref f_law_told)))
    (l_law_told : K.lookup f_law_told = some ⟨oc_law_told, od_law_told, .func (PySem.W.fnOf "_law_told" "_law_told" (defArgs s_law_told) (defBody s_law_told) (defScope s_law_told) .none kV_law_told dc_law_told pm_law_told an_law_told cd_law_told ct_law_told), sl_law_told⟩)
    (c_law_told : PySem.W.codeIn K cd_law_told "_law_told" = true)
    (k_law_told : PySem.W.keepIn K (.ref f_law_told) = true)
    (a_law_base : PySem.W.nsIn K mainGlobals "_law_base" = some (some (.ref f_law_base)))
    (l_law_base : K.lookup f_law_base = some ⟨oc_law_base, od_law_base, .func (PySem.W.fnOf "_law_base" "_law_base" (defArgs s_law_base) (defBody s_law_base) (defScope s_law_base) .none kV_law_base dc_law_base pm_law_base an_law_base cd_law_base ct_law_base), sl_law_base⟩)
    (c_law_base : PySem.W.codeIn K cd_law_base "_law_base" = true)
    (k_law_base : PySem.W.keepIn K (.ref f_law_base) = true)
    (a_law_no_text : PySem.W.nsIn K mainGlobals "_law_no_text" = some (some (.ref f_law_no_text)))
    (l_law_no_text : K.lookup f_law_no_text = some ⟨oc_law_no_text, od_law_no_text, .func (PySem.W.fnOf "_law_no_text" "_law_no_text" (defArgs s_law_no_text) (defBody s_law_no_text) (defScope s_law_no_text) .none kV_law_no_text dc_law_no_text pm_law_no_text an_law_no_text cd_law_no_text ct_law_no_text), sl_law_no_text⟩)
    (c_law_no_text : PySem.W.codeIn K cd_law_no_text "_law_no_text" = true)
    (k_law_no_text : PySem.W.keepIn K (.ref f_law_no_text) = true)
    (a_law : PySem.W.nsIn K mainGlobals "law" = some (some (.ref f_law)))
    (l_law : K.lookup f_law = some ⟨oc_law, od_law, .func (PySem.W.fnOf "law" "law" (defArgs s_law) (defBody s_law) (defScope s_law) .none kV_law dc_law pm_law an_law cd_law ct_law), sl_law⟩)
    (c_law : PySem.W.codeIn K cd_law "law" = true)
    (k_law : PySem.W.keepIn K (.ref f_law) = true)
    (a_BadText : PySem.W.nsIn K mainGlobals "BadText" = some (some (.ref C_BadText)))
    (l_BadText : K.lookup C_BadText = some (excClassObj nm_BadText qn_BadText C_BadText N_BadText bs_BadText bm_BadText true sn_BadText sb_BadText ab_BadText col_BadText dd_BadText q0_BadText q1_BadText q2_BadText q3_BadText q5_BadText "ValueError.__new__"))
    (rv_BadText : PySem.HandSPX.refsVE bm_BadText = true)
    (sup_BadText : PySem.W.ks_superIn K C_BadText C_BadText "__init__" = some (some (.builtin "ValueError.__init__")))
    (sa_BadText : PySem.W.findIn K (.ref C_BadText) "__setattr__" = some (some (.builtin "object.__setattr__")))
    (ga_BadText : PySem.W.findIn K (.ref C_BadText) "__getattribute__" = some (some (.builtin "BaseException.__getattribute__")))
    (gg_BadText : PySem.W.findIn K (.ref C_BadText) "__getattr__" = some (none))
    (no_BadText : PySem.W.findIn K (.ref C_BadText) "at" = some (none))
    (ca_BadText : PySem.W.findIn K (.ref C_BadText) "__class__" = some (some (.builtin "object.__class__")))
    (iC_BadText : PySem.W.findIn K (.ref C_BadText) "__init__" = some (some (.ref I_BadText)))
    (tC_BadText : PySem.W.typeIn K (.ref I_BadText) = some (.type "function"))
    (kC_BadText : PySem.W.keepIn K (.ref C_BadText) = true)
    (be_BadText : PySem.W.subIn K (.ref C_BadText) (.type "BaseException") = some true)
    (ve_BadText : PySem.W.subIn K (.ref C_BadText) (.type "ValueError") = some true)
    (me_BadText : PySem.W.mroIn K C_BadText (.ref C_BadText) = some true)
    (mo_BadText : PySem.W.mroIn K C_BadText (.type "object") = some true)
    (ty_BadText : PySem.W.typeIn K (.ref C_BadText) = some (.type "type"))
    (hd_BadText : PySem.W.hasDictIn K C_BadText = true)
    (li_BadText : K.lookup I_BadText = some ⟨oc_BadText, od_BadText, .func (PySem.W.ksFn "__init__" "BadText.__init__" (PySem.ErrX.eA "at" ⟨6, 17, 6, 21⟩ ⟨6, 23, 6, 25⟩) (PySem.ErrX.eB "BadText" "at" ⟨7, 8, 7, 13⟩ ⟨7, 8, 7, 15⟩ ⟨7, 8, 7, 24⟩ ⟨7, 25, 7, 34⟩ ⟨7, 8, 7, 35⟩ ⟨7, 8, 7, 35⟩ ⟨8, 8, 8, 12⟩ ⟨8, 8, 8, 15⟩ ⟨8, 18, 8, 20⟩ ⟨8, 8, 8, 20⟩) (PySem.ErrX.eS "at") .none kV_BadText dc_BadText pm_BadText an_BadText (.ref cda_BadText) ct_BadText cc_BadText), osl_BadText⟩)
    (ci_BadText : PySem.W.codeIn K (.ref cda_BadText) "BadText.__init__" = true)
    (lk_BadText : K.lookup cda_BadText = some ⟨ccl_BadText, cdd_BadText, .fields vs_BadText, ccs_BadText⟩)
    (vk_BadText : vs_BadText[2]? = some (.str file_BadText tf_BadText))
    (fk_BadText : ((P.main.file : Str) == file_BadText) = true)
    (lc_BadText : K.lookup cc_BadText = some ⟨cl_BadText, cld_BadText, .cell (some (.ref C_BadText)), csl_BadText⟩)
    (a_BadWidth : PySem.W.nsIn K mainGlobals "BadWidth" = some (some (.ref C_BadWidth)))
    (l_BadWidth : K.lookup C_BadWidth = some (excClassObj nm_BadWidth qn_BadWidth C_BadWidth N_BadWidth bs_BadWidth bm_BadWidth true sn_BadWidth sb_BadWidth ab_BadWidth col_BadWidth dd_BadWidth q0_BadWidth q1_BadWidth q2_BadWidth q3_BadWidth q5_BadWidth "ValueError.__new__"))
    (rv_BadWidth : PySem.HandSPX.refsVE bm_BadWidth = true)
    (sup_BadWidth : PySem.W.ks_superIn K C_BadWidth C_BadWidth "__init__" = some (some (.builtin "ValueError.__init__")))
    (sa_BadWidth : PySem.W.findIn K (.ref C_BadWidth) "__setattr__" = some (some (.builtin "object.__setattr__")))
    (ga_BadWidth : PySem.W.findIn K (.ref C_BadWidth) "__getattribute__" = some (some (.builtin "BaseException.__getattribute__")))
    (gg_BadWidth : PySem.W.findIn K (.ref C_BadWidth) "__getattr__" = some (none))
    (no_BadWidth : PySem.W.findIn K (.ref C_BadWidth) "width" = some (none))
    (ca_BadWidth : PySem.W.findIn K (.ref C_BadWidth) "__class__" = some (some (.builtin "object.__class__")))
    (iC_BadWidth : PySem.W.findIn K (.ref C_BadWidth) "__init__" = some (some (.ref I_BadWidth)))
    (tC_BadWidth : PySem.W.typeIn K (.ref I_BadWidth) = some (.type "function"))
    (kC_BadWidth : PySem.W.keepIn K (.ref C_BadWidth) = true)
    (be_BadWidth : PySem.W.subIn K (.ref C_BadWidth) (.type "BaseException") = some true)
    (ve_BadWidth : PySem.W.subIn K (.ref C_BadWidth) (.type "ValueError") = some true)
    (me_BadWidth : PySem.W.mroIn K C_BadWidth (.ref C_BadWidth) = some true)
    (mo_BadWidth : PySem.W.mroIn K C_BadWidth (.type "object") = some true)
    (ty_BadWidth : PySem.W.typeIn K (.ref C_BadWidth) = some (.type "type"))
    (hd_BadWidth : PySem.W.hasDictIn K C_BadWidth = true)
    (li_BadWidth : K.lookup I_BadWidth = some ⟨oc_BadWidth, od_BadWidth, .func (PySem.W.ksFn "__init__" "BadWidth.__init__" (PySem.ErrX.eA "width" ⟨11, 17, 11, 21⟩ ⟨11, 23, 11, 28⟩) (PySem.ErrX.eB "BadWidth" "width" ⟨12, 8, 12, 13⟩ ⟨12, 8, 12, 15⟩ ⟨12, 8, 12, 24⟩ ⟨12, 25, 12, 35⟩ ⟨12, 8, 12, 36⟩ ⟨12, 8, 12, 36⟩ ⟨13, 8, 13, 12⟩ ⟨13, 8, 13, 18⟩ ⟨13, 21, 13, 26⟩ ⟨13, 8, 13, 26⟩) (PySem.ErrX.eS "width") .none kV_BadWidth dc_BadWidth pm_BadWidth an_BadWidth (.ref cda_BadWidth) ct_BadWidth cc_BadWidth), osl_BadWidth⟩)
    (ci_BadWidth : PySem.W.codeIn K (.ref cda_BadWidth) "BadWidth.__init__" = true)
    (lk_BadWidth : K.lookup cda_BadWidth = some ⟨ccl_BadWidth, cdd_BadWidth, .fields vs_BadWidth, ccs_BadWidth⟩)
    (vk_BadWidth : vs_BadWidth[2]? = some (.str file_BadWidth tf_BadWidth))
    (fk_BadWidth : ((P.main.file : Str) == file_BadWidth) = true)
    (lc_BadWidth : K.lookup cc_BadWidth = some ⟨cl_BadWidth, cld_BadWidth, .cell (some (.ref C_BadWidth)), csl_BadWidth⟩)
    (a_TooWide : PySem.W.nsIn K mainGlobals "TooWide" = some (some (.ref C_TooWide)))
    (l_TooWide : K.lookup C_TooWide = some (excClassObj nm_TooWide qn_TooWide C_TooWide N_TooWide bs_TooWide bm_TooWide true sn_TooWide sb_TooWide ab_TooWide col_TooWide dd_TooWide q0_TooWide q1_TooWide q2_TooWide q3_TooWide q5_TooWide "ValueError.__new__"))
    (rv_TooWide : PySem.HandSPX.refsVE bm_TooWide = true)
    (sup_TooWide : PySem.W.ks_superIn K C_TooWide C_TooWide "__init__" = some (some (.builtin "ValueError.__init__")))
    (sa_TooWide : PySem.W.findIn K (.ref C_TooWide) "__setattr__" = some (some (.builtin "object.__setattr__")))
    (ga_TooWide : PySem.W.findIn K (.ref C_TooWide) "__getattribute__" = some (some (.builtin "BaseException.__getattribute__")))
    (gg_TooWide : PySem.W.findIn K (.ref C_TooWide) "__getattr__" = some (none))
    (no_TooWide : PySem.W.findIn K (.ref C_TooWide) "least" = some (none))
    (ca_TooWide : PySem.W.findIn K (.ref C_TooWide) "__class__" = some (some (.builtin "object.__class__")))
    (iC_TooWide : PySem.W.findIn K (.ref C_TooWide) "__init__" = some (some (.ref I_TooWide)))
    (tC_TooWide : PySem.W.typeIn K (.ref I_TooWide) = some (.type "function"))
    (kC_TooWide : PySem.W.keepIn K (.ref C_TooWide) = true)
    (be_TooWide : PySem.W.subIn K (.ref C_TooWide) (.type "BaseException") = some true)
    (ve_TooWide : PySem.W.subIn K (.ref C_TooWide) (.type "ValueError") = some true)
    (me_TooWide : PySem.W.mroIn K C_TooWide (.ref C_TooWide) = some true)
    (mo_TooWide : PySem.W.mroIn K C_TooWide (.type "object") = some true)
    (ty_TooWide : PySem.W.typeIn K (.ref C_TooWide) = some (.type "type"))
    (hd_TooWide : PySem.W.hasDictIn K C_TooWide = true)
    (li_TooWide : K.lookup I_TooWide = some ⟨oc_TooWide, od_TooWide, .func (PySem.W.ksFn "__init__" "TooWide.__init__" (PySem.ErrX.eA "least" ⟨16, 17, 16, 21⟩ ⟨16, 23, 16, 28⟩) (PySem.ErrX.eB "TooWide" "least" ⟨17, 8, 17, 13⟩ ⟨17, 8, 17, 15⟩ ⟨17, 8, 17, 24⟩ ⟨17, 25, 17, 34⟩ ⟨17, 8, 17, 35⟩ ⟨17, 8, 17, 35⟩ ⟨18, 8, 18, 12⟩ ⟨18, 8, 18, 18⟩ ⟨18, 21, 18, 26⟩ ⟨18, 8, 18, 26⟩) (PySem.ErrX.eS "least") .none kV_TooWide dc_TooWide pm_TooWide an_TooWide (.ref cda_TooWide) ct_TooWide cc_TooWide), osl_TooWide⟩)
    (ci_TooWide : PySem.W.codeIn K (.ref cda_TooWide) "TooWide.__init__" = true)
    (lk_TooWide : K.lookup cda_TooWide = some ⟨ccl_TooWide, cdd_TooWide, .fields vs_TooWide, ccs_TooWide⟩)
    (vk_TooWide : vs_TooWide[2]? = some (.str file_TooWide tf_TooWide))
    (fk_TooWide : ((P.main.file : Str) == file_TooWide) = true)
    (lc_TooWide : K.lookup cc_TooWide = some ⟨cl_TooWide, cld_TooWide, .cell (some (.ref C_TooWide)), csl_TooWide⟩)
    (a_CaptionError : PySem.W.nsIn K mainGlobals "CaptionError" = some (some (.ref C_CaptionError)))
    (x_BadText_BadText : PySem.W.exmOne K (.ref C_BadText) (.ref C_BadText) = some true)
    (i_BadText_BadText : PySem.W.kitOne K (.ref C_BadText) (.ref C_BadText) = some true)
    (x_BadText_BadWidth : PySem.W.exmOne K (.ref C_BadText) (.ref C_BadWidth) = some false)
    (i_BadText_BadWidth : PySem.W.kitOne K (.ref C_BadText) (.ref C_BadWidth) = some false)
    (x_BadText_TooWide : PySem.W.exmOne K (.ref C_BadText) (.ref C_TooWide) = some false)
    (i_BadText_TooWide : PySem.W.kitOne K (.ref C_BadText) (.ref C_TooWide) = some false)
    (x_BadText_CaptionError : PySem.W.exmOne K (.ref C_BadText) (.ref C_CaptionError) = some true)
    (i_BadText_CaptionError : PySem.W.kitOne K (.ref C_BadText) (.ref C_CaptionError) = some true)
    (i_BadText_ValueError : PySem.W.kitOne K (.ref C_BadText) (.type "ValueError") = some true)
    (x_BadWidth_BadText : PySem.W.exmOne K (.ref C_BadWidth) (.ref C_BadText) = some false)
    (i_BadWidth_BadText : PySem.W.kitOne K (.ref C_BadWidth) (.ref C_BadText) = some false)
    (x_BadWidth_BadWidth : PySem.W.exmOne K (.ref C_BadWidth) (.ref C_BadWidth) = some true)
    (i_BadWidth_BadWidth : PySem.W.kitOne K (.ref C_BadWidth) (.ref C_BadWidth) = some true)
    (x_BadWidth_TooWide : PySem.W.exmOne K (.ref C_BadWidth) (.ref C_TooWide) = some false)
    (i_BadWidth_TooWide : PySem.W.kitOne K (.ref C_BadWidth) (.ref C_TooWide) = some false)
    (x_BadWidth_CaptionError : PySem.W.exmOne K (.ref C_BadWidth) (.ref C_CaptionError) = some true)
    (i_BadWidth_CaptionError : PySem.W.kitOne K (.ref C_BadWidth) (.ref C_CaptionError) = some true)
    (i_BadWidth_ValueError : PySem.W.kitOne K (.ref C_BadWidth) (.type "ValueError") = some true)
    (x_TooWide_BadText : PySem.W.exmOne K (.ref C_TooWide) (.ref C_BadText) = some false)
    (i_TooWide_BadText : PySem.W.kitOne K (.ref C_TooWide) (.ref C_BadText) = some false)
    (x_TooWide_BadWidth : PySem.W.exmOne K (.ref C_TooWide) (.ref C_BadWidth) = some false)
    (i_TooWide_BadWidth : PySem.W.kitOne K (.ref C_TooWide) (.ref C_BadWidth) = some false)
    (x_TooWide_TooWide : PySem.W.exmOne K (.ref C_TooWide) (.ref C_TooWide) = some true)
    (i_TooWide_TooWide : PySem.W.kitOne K (.ref C_TooWide) (.ref C_TooWide) = some true)
    (x_TooWide_CaptionError : PySem.W.exmOne K (.ref C_TooWide) (.ref C_CaptionError) = some true)
    (i_TooWide_CaptionError : PySem.W.kitOne K (.ref C_TooWide) (.ref C_CaptionError) = some true)
    (i_TooWide_ValueError : PySem.W.kitOne K (.ref C_TooWide) (.type "ValueError") = some true)
    (op : PySem.W.nsIn K cStatics "thirdparty.any" = some none)
    (top : (P.main.scope.names.lookup ("super" : Str)).isSome = false)
    (sp : PySem.W.specialIn K (.builtin "object.__class__") "__get__" = some (some (.builtin "getset_descriptor.__get__")))
    (tk : PySem.W.takesIn K (.builtin "object.__class__") = some true)
    : ∃ fd : FuncData, (∀ (s : Shared) (v : Value), BindsTo s fd ⟨[v], []⟩ [("_law_script", v)]) ∧ ∀ base : Heap, K.In base → base.Ns mainGlobals mg → FnOk l.prog w K mg base CX0 5 fa fd ["_law_script"] (sp_law K) := by
  have e := hfa.symm.trans (PySem.W.mg_of X G a_law)
  have e2 : f_law = fa := by injection e with e; injection e with e; exact e.symm
  subst e2
  subst hP
  have F_is_integer : FunD K "is_integer" "is_integer" (defArgs s_is_integer) (defBody s_is_integer) (defScope s_is_integer) [.non] [] f_is_integer (PySem.W.fnOf "is_integer" "is_integer" (defArgs s_is_integer) (defBody s_is_integer) (defScope s_is_integer) (.ref T_is_integer) kV_is_integer dc_is_integer pm_is_integer an_is_integer cd_is_integer ct_is_integer) := ⟨⟨_, _, _, _, _, _, _, _, _, _, rfl, l_is_integer, c_is_integer, .inr ⟨by simp, T_is_integer, _, [.none], _, rfl, t_is_integer, rfl, (.cons rfl .nil)⟩, .inl rfl⟩, k_is_integer⟩
  have B_is_integer : Binds K (PySem.W.fnOf "is_integer" "is_integer" (defArgs s_is_integer) (defBody s_is_integer) (defScope s_is_integer) (.ref T_is_integer) kV_is_integer dc_is_integer pm_is_integer an_is_integer cd_is_integer ct_is_integer) ["thing", "low", "high"] [] := by
    obtain ⟨ds, r, b⟩ := F_is_integer.binds1 (ps := ["thing", "low", "high"]) 3 1 (by simp) rfl (fun T kV doc pm an cdv ct us its hu hi => match us, its, hu, hi with | [_, _, _], [_], _, _ => ⟨_, rfl, rfl⟩)
    cases r
    exact b
  have BD_is_integer : ∃ ds, Vals [.non] ds ∧ Binds K (PySem.W.fnOf "is_integer" "is_integer" (defArgs s_is_integer) (defBody s_is_integer) (defScope s_is_integer) (.ref T_is_integer) kV_is_integer dc_is_integer pm_is_integer an_is_integer cd_is_integer ct_is_integer) ["thing", "low", "high"] ds := F_is_integer.binds1 (ps := ["thing", "low", "high"]) 2 0 (by simp) rfl (fun T kV doc pm an cdv ct us its hu hi => match us, its, hu, hi with | [_, _], [_], _, _ => ⟨_, rfl, rfl⟩)
  have F_plain_text := fun_mk (st := s_plain_text) l_plain_text c_plain_text k_plain_text
  have F_breaks := fun_mk (st := s_breaks) l_breaks c_breaks k_breaks
  have F_wider := fun_mk (st := s_wider) l_wider c_wider k_wider
  have F_two_lines := fun_mk (st := s_two_lines) l_two_lines c_two_lines k_two_lines
  have F_law_tape := fun_mk (st := s_law_tape) l_law_tape c_law_tape k_law_tape
  have F_law_pick := fun_mk (st := s_law_pick) l_law_pick c_law_pick k_law_pick
  have F_law_some := fun_mk (st := s_law_some) l_law_some c_law_some k_law_some
  have F_law_text := fun_mk (st := s_law_text) l_law_text c_law_text k_law_text
  have F_law_same := fun_mk (st := s_law_same) l_law_same c_law_same k_law_same
  have F_law_wide_text := fun_mk (st := s_law_wide_text) l_law_wide_text c_law_wide_text k_law_wide_text
  have F_law_least := fun_mk (st := s_law_least) l_law_least c_law_least k_law_least
  have F_law_width := fun_mk (st := s_law_width) l_law_width c_law_width k_law_width
  have F_law_due := fun_mk (st := s_law_due) l_law_due c_law_due k_law_due
  have F_law_told := fun_mk (st := s_law_told) l_law_told c_law_told k_law_told
  have F_law_base := fun_mk (st := s_law_base) l_law_base c_law_base k_law_base
  have F_law_no_text := fun_mk (st := s_law_no_text) l_law_no_text c_law_no_text k_law_no_text
  have F_law := fun_mk (st := s_law) l_law c_law k_law
  have T : Txt l.prog K mg (fun i => [f_is_integer, f_plain_text, f_breaks, f_wider, f_two_lines, f_law_tape, f_law_pick, f_law_some, f_law_text, f_law_same, f_law_wide_text, f_law_least, f_law_width, f_law_due, f_law_told, f_law_base, f_law_no_text, f_law, C_BadText, I_BadText, C_BadWidth, I_BadWidth, C_TooWide, I_TooWide, C_CaptionError].getD i 0) (fun i => [(PySem.W.fnOf "is_integer" "is_integer" (defArgs s_is_integer) (defBody s_is_integer) (defScope s_is_integer) (.ref T_is_integer) kV_is_integer dc_is_integer pm_is_integer an_is_integer cd_is_integer ct_is_integer), (PySem.W.fnOf "plain_text" "plain_text" (defArgs s_plain_text) (defBody s_plain_text) (defScope s_plain_text) .none kV_plain_text dc_plain_text pm_plain_text an_plain_text cd_plain_text ct_plain_text), (PySem.W.fnOf "breaks" "breaks" (defArgs s_breaks) (defBody s_breaks) (defScope s_breaks) .none kV_breaks dc_breaks pm_breaks an_breaks cd_breaks ct_breaks), (PySem.W.fnOf "wider" "wider" (defArgs s_wider) (defBody s_wider) (defScope s_wider) .none kV_wider dc_wider pm_wider an_wider cd_wider ct_wider), (PySem.W.fnOf "two_lines" "two_lines" (defArgs s_two_lines) (defBody s_two_lines) (defScope s_two_lines) .none kV_two_lines dc_two_lines pm_two_lines an_two_lines cd_two_lines ct_two_lines), (PySem.W.fnOf "_law_tape" "_law_tape" (defArgs s_law_tape) (defBody s_law_tape) (defScope s_law_tape) .none kV_law_tape dc_law_tape pm_law_tape an_law_tape cd_law_tape ct_law_tape), (PySem.W.fnOf "_law_pick" "_law_pick" (defArgs s_law_pick) (defBody s_law_pick) (defScope s_law_pick) .none kV_law_pick dc_law_pick pm_law_pick an_law_pick cd_law_pick ct_law_pick), (PySem.W.fnOf "_law_some" "_law_some" (defArgs s_law_some) (defBody s_law_some) (defScope s_law_some) .none kV_law_some dc_law_some pm_law_some an_law_some cd_law_some ct_law_some), (PySem.W.fnOf "_law_text" "_law_text" (defArgs s_law_text) (defBody s_law_text) (defScope s_law_text) .none kV_law_text dc_law_text pm_law_text an_law_text cd_law_text ct_law_text), (PySem.W.fnOf "_law_same" "_law_same" (defArgs s_law_same) (defBody s_law_same) (defScope s_law_same) .none kV_law_same dc_law_same pm_law_same an_law_same cd_law_same ct_law_same), (PySem.W.fnOf "_law_wide_text" "_law_wide_text" (defArgs s_law_wide_text) (defBody s_law_wide_text) (defScope s_law_wide_text) .none kV_law_wide_text dc_law_wide_text pm_law_wide_text an_law_wide_text cd_law_wide_text ct_law_wide_text), (PySem.W.fnOf "_law_least" "_law_least" (defArgs s_law_least) (defBody s_law_least) (defScope s_law_least) .none kV_law_least dc_law_least pm_law_least an_law_least cd_law_least ct_law_least), (PySem.W.fnOf "_law_width" "_law_width" (defArgs s_law_width) (defBody s_law_width) (defScope s_law_width) .none kV_law_width dc_law_width pm_law_width an_law_width cd_law_width ct_law_width), (PySem.W.fnOf "_law_due" "_law_due" (defArgs s_law_due) (defBody s_law_due) (defScope s_law_due) .none kV_law_due dc_law_due pm_law_due an_law_due cd_law_due ct_law_due), (PySem.W.fnOf "_law_told" "_law_told" (defArgs s_law_told) (defBody s_law_told) (defScope s_law_told) .none kV_law_told dc_law_told pm_law_told an_law_told cd_law_told ct_law_told), (PySem.W.fnOf "_law_base" "_law_base" (defArgs s_law_base) (defBody s_law_base) (defScope s_law_base) .none kV_law_base dc_law_base pm_law_base an_law_base cd_law_base ct_law_base), (PySem.W.fnOf "_law_no_text" "_law_no_text" (defArgs s_law_no_text) (defBody s_law_no_text) (defScope s_law_no_text) .none kV_law_no_text dc_law_no_text pm_law_no_text an_law_no_text cd_law_no_text ct_law_no_text), (PySem.W.fnOf "law" "law" (defArgs s_law) (defBody s_law) (defScope s_law) .none kV_law dc_law pm_law an_law cd_law ct_law), (PySem.W.fnOf "law" "law" (defArgs s_law) (defBody s_law) (defScope s_law) .none kV_law dc_law pm_law an_law cd_law ct_law), (PySem.W.fnOf "law" "law" (defArgs s_law) (defBody s_law) (defScope s_law) .none kV_law dc_law pm_law an_law cd_law ct_law), (PySem.W.fnOf "law" "law" (defArgs s_law) (defBody s_law) (defScope s_law) .none kV_law dc_law pm_law an_law cd_law ct_law), (PySem.W.fnOf "law" "law" (defArgs s_law) (defBody s_law) (defScope s_law) .none kV_law dc_law pm_law an_law cd_law ct_law), (PySem.W.fnOf "law" "law" (defArgs s_law) (defBody s_law) (defScope s_law) .none kV_law dc_law pm_law an_law cd_law ct_law), (PySem.W.fnOf "law" "law" (defArgs s_law) (defBody s_law) (defScope s_law) .none kV_law dc_law pm_law an_law cd_law ct_law), (PySem.W.fnOf "law" "law" (defArgs s_law) (defBody s_law) (defScope s_law) .none kV_law dc_law pm_law an_law cd_law ct_law)].getD i (PySem.W.fnOf "law" "law" (defArgs s_law) (defBody s_law) (defScope s_law) .none kV_law dc_law pm_law an_law cd_law ct_law)) := {
    n_len := PySem.W.mg_none_of X G z_len
    n_range := PySem.W.mg_none_of X G z_range
    n_isinstance := PySem.W.mg_none_of X G z_isinstance
    n_int := PySem.W.mg_none_of X G z_int
    n_str := PySem.W.mg_none_of X G z_str
    n_bool := PySem.W.mg_none_of X G z_bool
    n_tuple := PySem.W.mg_none_of X G z_tuple
    n_ValueError := PySem.W.mg_none_of X G z_ValueError
    n_all := PySem.W.mg_none_of X G z_all
    n_ord := PySem.W.mg_none_of X G z_ord
    n_max := PySem.W.mg_none_of X G z_max
    n_min := PySem.W.mg_none_of X G z_min
    n_abs := PySem.W.mg_none_of X G z_abs
    F_is_integer := F_is_integer
    b_is_integer := B_is_integer
    bd_is_integer := BD_is_integer
    m_is_integer := PySem.W.mg_of X G a_is_integer
    k_is_integer := k_is_integer
    F_plain_text := F_plain_text
    b_plain_text := F_plain_text.binds (ps := ["thing"]) fun _ _ _ _ _ _ us hl => match us, hl with | [_], _ => rfl
    m_plain_text := PySem.W.mg_of X G a_plain_text
    k_plain_text := k_plain_text
    F_breaks := F_breaks
    b_breaks := F_breaks.binds (ps := ["text"]) fun _ _ _ _ _ _ us hl => match us, hl with | [_], _ => rfl
    m_breaks := PySem.W.mg_of X G a_breaks
    k_breaks := k_breaks
    F_wider := F_wider
    b_wider := F_wider.binds (ps := ["lines"]) fun _ _ _ _ _ _ us hl => match us, hl with | [_], _ => rfl
    m_wider := PySem.W.mg_of X G a_wider
    k_wider := k_wider
    F_two_lines := F_two_lines
    b_two_lines := F_two_lines.binds (ps := ["text", "width"]) fun _ _ _ _ _ _ us hl => match us, hl with | [_, _], _ => rfl
    m_two_lines := PySem.W.mg_of X G a_two_lines
    k_two_lines := k_two_lines
    F_law_tape := F_law_tape
    b_law_tape := F_law_tape.binds (ps := ["_law_script"]) fun _ _ _ _ _ _ us hl => match us, hl with | [_], _ => rfl
    m_law_tape := PySem.W.mg_of X G a_law_tape
    k_law_tape := k_law_tape
    F_law_pick := F_law_pick
    b_law_pick := F_law_pick.binds (ps := ["_law_tape_here", "_law_many"]) fun _ _ _ _ _ _ us hl => match us, hl with | [_, _], _ => rfl
    m_law_pick := PySem.W.mg_of X G a_law_pick
    k_law_pick := k_law_pick
    F_law_some := F_law_some
    b_law_some := F_law_some.binds (ps := ["_law_tape_here", "_law_low", "_law_high"]) fun _ _ _ _ _ _ us hl => match us, hl with | [_, _, _], _ => rfl
    m_law_some := PySem.W.mg_of X G a_law_some
    k_law_some := k_law_some
    F_law_text := F_law_text
    b_law_text := F_law_text.binds (ps := ["_law_tape_here", "_law_most"]) fun _ _ _ _ _ _ us hl => match us, hl with | [_, _], _ => rfl
    m_law_text := PySem.W.mg_of X G a_law_text
    k_law_text := k_law_text
    F_law_same := F_law_same
    b_law_same := F_law_same.binds (ps := ["_law_told_here", "_law_due_here"]) fun _ _ _ _ _ _ us hl => match us, hl with | [_, _], _ => rfl
    m_law_same := PySem.W.mg_of X G a_law_same
    k_law_same := k_law_same
    F_law_wide_text := F_law_wide_text
    b_law_wide_text := F_law_wide_text.binds (ps := ["_law_tape_here"]) fun _ _ _ _ _ _ us hl => match us, hl with | [_], _ => rfl
    m_law_wide_text := PySem.W.mg_of X G a_law_wide_text
    k_law_wide_text := k_law_wide_text
    F_law_least := F_law_least
    b_law_least := F_law_least.binds (ps := ["_law_text_here"]) fun _ _ _ _ _ _ us hl => match us, hl with | [_], _ => rfl
    m_law_least := PySem.W.mg_of X G a_law_least
    k_law_least := k_law_least
    F_law_width := F_law_width
    b_law_width := F_law_width.binds (ps := ["_law_tape_here", "_law_text_here"]) fun _ _ _ _ _ _ us hl => match us, hl with | [_, _], _ => rfl
    m_law_width := PySem.W.mg_of X G a_law_width
    k_law_width := k_law_width
    F_law_due := F_law_due
    b_law_due := F_law_due.binds (ps := ["_law_text_here", "_law_width_here"]) fun _ _ _ _ _ _ us hl => match us, hl with | [_, _], _ => rfl
    m_law_due := PySem.W.mg_of X G a_law_due
    k_law_due := k_law_due
    F_law_told := F_law_told
    b_law_told := F_law_told.binds (ps := ["_law_text_here", "_law_width_here"]) fun _ _ _ _ _ _ us hl => match us, hl with | [_, _], _ => rfl
    m_law_told := PySem.W.mg_of X G a_law_told
    k_law_told := k_law_told
    F_law_base := F_law_base
    b_law_base := F_law_base.binds (ps := ["_law_text_here", "_law_width_here"]) fun _ _ _ _ _ _ us hl => match us, hl with | [_, _], _ => rfl
    m_law_base := PySem.W.mg_of X G a_law_base
    k_law_base := k_law_base
    F_law_no_text := F_law_no_text
    b_law_no_text := F_law_no_text.binds (ps := ["_law_tape_here", "_law_text_here"]) fun _ _ _ _ _ _ us hl => match us, hl with | [_, _], _ => rfl
    m_law_no_text := PySem.W.mg_of X G a_law_no_text
    k_law_no_text := k_law_no_text
    F_law := F_law
    b_law := F_law.binds (ps := ["_law_script"]) fun _ _ _ _ _ _ us hl => match us, hl with | [_], _ => rfl
    m_law := PySem.W.mg_of X G a_law
    k_law := k_law
    v_BadText := PySem.W.mg_of X G a_BadText
    e_BadText := { gC := PySem.W.mg_of X G a_BadText, mS := PySem.W.mg_none_of X G z_super, bnd := fun _ _ _ _ _ _ _ _ _ _ _ _ _ _ => rfl, nsf := by decide +kernel, nSu := by decide +kernel, nCl := by decide +kernel, nDb := by decide +kernel, nfs := by decide +kernel, cls := ⟨_, _, _, _, _, _, _, _, _, _, _, _, _, _, _, l_BadText, rv_BadText⟩, sup := sup_BadText, sa := sa_BadText, ga := ga_BadText, gg := gg_BadText, noN := no_BadText, iC := iC_BadText, tC := tC_BadText, kC := kC_BadText, exC := be_BadText, veC := ve_BadText, meC := me_BadText, tyC := ty_BadText, hdC := hd_BadText, op := op, top := top, fn := ⟨_, _, _, _, _, _, _, _, _, _, _, _, _, _, _, _, _, _, _, _, _, _, li_BadText, ci_BadText, rfl, ⟨_, _, _, _, _, _, lk_BadText, vk_BadText, fk_BadText⟩, _, _, _, lc_BadText⟩ }
    xf_BadText := ⟨ga_BadText, gg_BadText, be_BadText, hd_BadText⟩
    no_BadText := no_BadText
    is_BadText := ⟨by show (PySem.W.clsIn K C_BadText).isSome = true; unfold PySem.W.clsIn; rw [l_BadText] <;> rfl, ga_BadText, gg_BadText, be_BadText, ca_BadText, sp, tk, mo_BadText⟩
    v_BadWidth := PySem.W.mg_of X G a_BadWidth
    e_BadWidth := { gC := PySem.W.mg_of X G a_BadWidth, mS := PySem.W.mg_none_of X G z_super, bnd := fun _ _ _ _ _ _ _ _ _ _ _ _ _ _ => rfl, nsf := by decide +kernel, nSu := by decide +kernel, nCl := by decide +kernel, nDb := by decide +kernel, nfs := by decide +kernel, cls := ⟨_, _, _, _, _, _, _, _, _, _, _, _, _, _, _, l_BadWidth, rv_BadWidth⟩, sup := sup_BadWidth, sa := sa_BadWidth, ga := ga_BadWidth, gg := gg_BadWidth, noN := no_BadWidth, iC := iC_BadWidth, tC := tC_BadWidth, kC := kC_BadWidth, exC := be_BadWidth, veC := ve_BadWidth, meC := me_BadWidth, tyC := ty_BadWidth, hdC := hd_BadWidth, op := op, top := top, fn := ⟨_, _, _, _, _, _, _, _, _, _, _, _, _, _, _, _, _, _, _, _, _, _, li_BadWidth, ci_BadWidth, rfl, ⟨_, _, _, _, _, _, lk_BadWidth, vk_BadWidth, fk_BadWidth⟩, _, _, _, lc_BadWidth⟩ }
    xf_BadWidth := ⟨ga_BadWidth, gg_BadWidth, be_BadWidth, hd_BadWidth⟩
    no_BadWidth := no_BadWidth
    is_BadWidth := ⟨by show (PySem.W.clsIn K C_BadWidth).isSome = true; unfold PySem.W.clsIn; rw [l_BadWidth] <;> rfl, ga_BadWidth, gg_BadWidth, be_BadWidth, ca_BadWidth, sp, tk, mo_BadWidth⟩
    v_TooWide := PySem.W.mg_of X G a_TooWide
    e_TooWide := { gC := PySem.W.mg_of X G a_TooWide, mS := PySem.W.mg_none_of X G z_super, bnd := fun _ _ _ _ _ _ _ _ _ _ _ _ _ _ => rfl, nsf := by decide +kernel, nSu := by decide +kernel, nCl := by decide +kernel, nDb := by decide +kernel, nfs := by decide +kernel, cls := ⟨_, _, _, _, _, _, _, _, _, _, _, _, _, _, _, l_TooWide, rv_TooWide⟩, sup := sup_TooWide, sa := sa_TooWide, ga := ga_TooWide, gg := gg_TooWide, noN := no_TooWide, iC := iC_TooWide, tC := tC_TooWide, kC := kC_TooWide, exC := be_TooWide, veC := ve_TooWide, meC := me_TooWide, tyC := ty_TooWide, hdC := hd_TooWide, op := op, top := top, fn := ⟨_, _, _, _, _, _, _, _, _, _, _, _, _, _, _, _, _, _, _, _, _, _, li_TooWide, ci_TooWide, rfl, ⟨_, _, _, _, _, _, lk_TooWide, vk_TooWide, fk_TooWide⟩, _, _, _, lc_TooWide⟩ }
    xf_TooWide := ⟨ga_TooWide, gg_TooWide, be_TooWide, hd_TooWide⟩
    no_TooWide := no_TooWide
    is_TooWide := ⟨by show (PySem.W.clsIn K C_TooWide).isSome = true; unfold PySem.W.clsIn; rw [l_TooWide] <;> rfl, ga_TooWide, gg_TooWide, be_TooWide, ca_TooWide, sp, tk, mo_TooWide⟩
    v_CaptionError := PySem.W.mg_of X G a_CaptionError
    x_BadText_BadText := x_BadText_BadText
    i_BadText_BadText := i_BadText_BadText
    x_BadText_BadWidth := x_BadText_BadWidth
    i_BadText_BadWidth := i_BadText_BadWidth
    x_BadText_TooWide := x_BadText_TooWide
    i_BadText_TooWide := i_BadText_TooWide
    x_BadText_CaptionError := x_BadText_CaptionError
    i_BadText_CaptionError := i_BadText_CaptionError
    i_BadText_ValueError := i_BadText_ValueError
    x_BadWidth_BadText := x_BadWidth_BadText
    i_BadWidth_BadText := i_BadWidth_BadText
    x_BadWidth_BadWidth := x_BadWidth_BadWidth
    i_BadWidth_BadWidth := i_BadWidth_BadWidth
    x_BadWidth_TooWide := x_BadWidth_TooWide
    i_BadWidth_TooWide := i_BadWidth_TooWide
    x_BadWidth_CaptionError := x_BadWidth_CaptionError
    i_BadWidth_CaptionError := i_BadWidth_CaptionError
    i_BadWidth_ValueError := i_BadWidth_ValueError
    x_TooWide_BadText := x_TooWide_BadText
    i_TooWide_BadText := i_TooWide_BadText
    x_TooWide_BadWidth := x_TooWide_BadWidth
    i_TooWide_BadWidth := i_TooWide_BadWidth
    x_TooWide_TooWide := x_TooWide_TooWide
    i_TooWide_TooWide := i_TooWide_TooWide
    x_TooWide_CaptionError := x_TooWide_CaptionError
    i_TooWide_CaptionError := i_TooWide_CaptionError
    i_TooWide_ValueError := i_TooWide_ValueError }
  exact ⟨_, fun s v => .of_eq rfl, fun base _ _ => ok_law T⟩
end K
open PySem PySem.W PyProof.Rows
set_option maxRecDepth 100000 in
set_option maxHeartbeats 8000000 in
theorem PySem.Challenge.cw_seamfast_k04_two_lines_holds : PySem.Challenge.rw_seamfast_k04_two_lines.Holds := by
  w_on; o_law; k_head
  (case hw => w_witness2)
  k_fill
  refine L2.walk_of (l := PySem.Challenge.rw_seamfast_k04_two_lines) (n := 63) (k := 5) (x := "_law_script") (CX := fun _ => L2.CX0) (sp := fun w => K.sp_law _) rfl (by decide) rfl ⟨rfl, by decide, by decide⟩ (fun w h Y => PySem.W.kIn_of Y) ?F (fun _ _ a ns hl _ hS => ⟨a, ns, rfl, hS, hl, fun _ => rfl⟩) (fun _ _ _ _ _ h => h)
  case F =>
    intro w mg fa h KX G hmg
    refine' K.all_mk rfl KX G hmg ?z_len ?z_range ?z_isinstance ?z_int ?z_str ?z_bool ?z_tuple ?z_ValueError ?z_all ?z_ord ?z_max ?z_min ?z_abs ?z_super ?a_is_integer ?l_is_integer ?c_is_integer ?k_is_integer ?t_is_integer ?a_plain_text ?l_plain_text ?c_plain_text ?k_plain_text ?a_breaks ?l_breaks ?c_breaks ?k_breaks ?a_wider ?l_wider ?c_wider ?k_wider ?a_two_lines ?l_two_lines ?c_two_lines ?k_two_lines ?a_law_tape ?l_law_tape ?c_law_tape ?k_law_tape ?a_law_pick ?l_law_pick ?c_law_pick ?k_law_pick ?a_law_some ?l_law_some ?c_law_some ?k_law_some ?a_law_text ?l_law_text ?c_law_text ?k_law_text ?a_law_same ?l_law_same ?c_law_same ?k_law_same ?a_law_wide_text ?l_law_wide_text ?c_law_wide_text ?k_law_wide_text ?a_law_least ?l_law_least ?c_law_least ?k_law_least ?a_law_width ?l_law_width ?c_law_width ?k_law_width ?a_law_due ?l_law_due ?c_law_due ?k_law_due ?a_law_told ?l_law_told ?c_law_told ?k_law_told ?a_law_base ?l_law_base ?c_law_base ?k_law_base ?a_law_no_text ?l_law_no_text ?c_law_no_text ?k_law_no_text ?a_law ?l_law ?c_law ?k_law ?a_BadText ?l_BadText ?rv_BadText ?sup_BadText ?sa_BadText ?ga_BadText ?gg_BadText ?no_BadText ?ca_BadText ?iC_BadText ?tC_BadText ?kC_BadText ?be_BadText ?ve_BadText ?me_BadText ?mo_BadText ?ty_BadText ?hd_BadText ?li_BadText ?ci_BadText ?lk_BadText ?vk_BadText ?fk_BadText ?lc_BadText ?a_BadWidth ?l_BadWidth ?rv_BadWidth ?sup_BadWidth ?sa_BadWidth ?ga_BadWidth ?gg_BadWidth ?no_BadWidth ?ca_BadWidth ?iC_BadWidth ?tC_BadWidth ?kC_BadWidth ?be_BadWidth ?ve_BadWidth ?me_BadWidth ?mo_BadWidth ?ty_BadWidth ?hd_BadWidth ?li_BadWidth ?ci_BadWidth ?lk_BadWidth ?vk_BadWidth ?fk_BadWidth ?lc_BadWidth ?a_TooWide ?l_TooWide ?rv_TooWide ?sup_TooWide ?sa_TooWide ?ga_TooWide ?gg_TooWide ?no_TooWide ?ca_TooWide ?iC_TooWide ?tC_TooWide ?kC_TooWide ?be_TooWide ?ve_TooWide ?me_TooWide ?mo_TooWide ?ty_TooWide ?hd_TooWide ?li_TooWide ?ci_TooWide ?lk_TooWide ?vk_TooWide ?fk_TooWide ?lc_TooWide ?a_CaptionError ?x_BadText_BadText ?i_BadText_BadText ?x_BadText_BadWidth ?i_BadText_BadWidth ?x_BadText_TooWide ?i_BadText_TooWide ?x_BadText_CaptionError ?i_BadText_CaptionError ?i_BadText_ValueError ?x_BadWidth_BadText ?i_BadWidth_BadText ?x_BadWidth_BadWidth ?i_BadWidth_BadWidth ?x_BadWidth_TooWide ?i_BadWidth_TooWide ?x_BadWidth_CaptionError ?i_BadWidth_CaptionError ?i_BadWidth_ValueError ?x_TooWide_BadText ?i_TooWide_BadText ?x_TooWide_BadWidth ?i_TooWide_BadWidth ?x_TooWide_TooWide ?i_TooWide_TooWide ?x_TooWide_CaptionError ?i_TooWide_CaptionError ?i_TooWide_ValueError ?op ?top ?sp ?tk
    (case z_len => first | k_is | rfl | decide +kernel)
    (case z_range => first | k_is | rfl | decide +kernel)
    (case z_isinstance => first | k_is | rfl | decide +kernel)
    (case z_int => first | k_is | rfl | decide +kernel)
    (case z_str => first | k_is | rfl | decide +kernel)
    (case z_bool => first | k_is | rfl | decide +kernel)
    (case z_tuple => first | k_is | rfl | decide +kernel)
    (case z_ValueError => first | k_is | rfl | decide +kernel)
    (case z_all => first | k_is | rfl | decide +kernel)
    (case z_ord => first | k_is | rfl | decide +kernel)
    (case z_max => first | k_is | rfl | decide +kernel)
    (case z_min => first | k_is | rfl | decide +kernel)
    (case z_abs => first | k_is | rfl | decide +kernel)
    (case z_super => first | k_is | rfl | decide +kernel)
    (case a_is_integer => first | k_is | rfl | decide +kernel)
    (case l_is_integer => first | k_is | rfl | decide +kernel)
    (case c_is_integer => first | k_is | rfl | decide +kernel)
    (case k_is_integer => first | k_is | rfl | decide +kernel)
    (case t_is_integer => first | k_is | rfl | decide +kernel)
    (case a_plain_text => first | k_is | rfl | decide +kernel)
    (case l_plain_text => first | k_is | rfl | decide +kernel)
    (case c_plain_text => first | k_is | rfl | decide +kernel)
    (case k_plain_text => first | k_is | rfl | decide +kernel)
    (case a_breaks => first | k_is | rfl | decide +kernel)
    (case l_breaks => first | k_is | rfl | decide +kernel)
    (case c_breaks => first | k_is | rfl | decide +kernel)
    (case k_breaks => first | k_is | rfl | decide +kernel)
    (case a_wider => first | k_is | rfl | decide +kernel)
    (case l_wider => first | k_is | rfl | decide +kernel)
    (case c_wider => first | k_is | rfl | decide +kernel)
    (case k_wider => first | k_is | rfl | decide +kernel)
    (case a_two_lines => first | k_is | rfl | decide +kernel)
    (case l_two_lines => first | k_is | rfl | decide +kernel)
    (case c_two_lines => first | k_is | rfl | decide +kernel)
    (case k_two_lines => first | k_is | rfl | decide +kernel)
    (case a_law_tape => first | k_is | rfl | decide +kernel)
    (case l_law_tape => first | k_is | rfl | decide +kernel)
    (case c_law_tape => first | k_is | rfl | decide +kernel)
    (case k_law_tape => first | k_is | rfl | decide +kernel)
    (case a_law_pick => first | k_is | rfl | decide +kernel)
    (case l_law_pick => first | k_is | rfl | decide +kernel)
    (case c_law_pick => first | k_is | rfl | decide +kernel)
    (case k_law_pick => first | k_is | rfl | decide +kernel)
    (case a_law_some => first | k_is | rfl | decide +kernel)
    (case l_law_some => first | k_is | rfl | decide +kernel)
    (case c_law_some => first | k_is | rfl | decide +kernel)
    (case k_law_some => first | k_is | rfl | decide +kernel)
    (case a_law_text => first | k_is | rfl | decide +kernel)
    (case l_law_text => first | k_is | rfl | decide +kernel)
    (case c_law_text => first | k_is | rfl | decide +kernel)
    (case k_law_text => first | k_is | rfl | decide +kernel)
    (case a_law_same => first | k_is | rfl | decide +kernel)
    (case l_law_same => first | k_is | rfl | decide +kernel)
    (case c_law_same => first | k_is | rfl | decide +kernel)
    (case k_law_same => first | k_is | rfl | decide +kernel)
    (case a_law_wide_text => first | k_is | rfl | decide +kernel)
    (case l_law_wide_text => first | k_is | rfl | decide +kernel)
    (case c_law_wide_text => first | k_is | rfl | decide +kernel)
    (case k_law_wide_text => first | k_is | rfl | decide +kernel)
    (case a_law_least => first | k_is | rfl | decide +kernel)
    (case l_law_least => first | k_is | rfl | decide +kernel)
    (case c_law_least => first | k_is | rfl | decide +kernel)
    (case k_law_least => first | k_is | rfl | decide +kernel)
    (case a_law_width => first | k_is | rfl | decide +kernel)
    (case l_law_width => first | k_is | rfl | decide +kernel)
    (case c_law_width => first | k_is | rfl | decide +kernel)
    (case k_law_width => first | k_is | rfl | decide +kernel)
    (case a_law_due => first | k_is | rfl | decide +kernel)
    (case l_law_due => first | k_is | rfl | decide +kernel)
    (case c_law_due => first | k_is | rfl | decide +kernel)
    (case k_law_due => first | k_is | rfl | decide +kernel)
    (case a_law_told => first | k_is | rfl | decide +kernel)
    (case l_law_told => first | k_is | rfl | decide +kernel)
    (case c_law_told => first | k_is | rfl | decide +kernel)
    (case k_law_told => first | k_is | rfl | decide +kernel)
    (case a_law_base => first | k_is | rfl | decide +kernel)
    (case l_law_base => first | k_is | rfl | decide +kernel)
    (case c_law_base => first | k_is | rfl | decide +kernel)
    (case k_law_base => first | k_is | rfl | decide +kernel)
    (case a_law_no_text => first | k_is | rfl | decide +kernel)
    (case l_law_no_text => first | k_is | rfl | decide +kernel)
    (case c_law_no_text => first | k_is | rfl | decide +kernel)
    (case k_law_no_text => first | k_is | rfl | decide +kernel)
    (case a_law => first | k_is | rfl | decide +kernel)
    (case l_law => first | k_is | rfl | decide +kernel)
    (case c_law => first | k_is | rfl | decide +kernel)
    (case k_law => first | k_is | rfl | decide +kernel)
    (case a_BadText => first | k_is | rfl | decide +kernel)
    (case l_BadText => first | k_is | rfl | decide +kernel)
    (case rv_BadText => first | k_is | rfl | decide +kernel)
    (case sup_BadText => first | k_is | rfl | decide +kernel)
    (case sa_BadText => first | k_is | rfl | decide +kernel)
    (case ga_BadText => first | k_is | rfl | decide +kernel)
    (case gg_BadText => first | k_is | rfl | decide +kernel)
    (case no_BadText => first | k_is | rfl | decide +kernel)
    (case ca_BadText => first | k_is | rfl | decide +kernel)
    (case iC_BadText => first | k_is | rfl | decide +kernel)
    (case tC_BadText => first | k_is | rfl | decide +kernel)
    (case kC_BadText => first | k_is | rfl | decide +kernel)
    (case be_BadText => first | k_is | rfl | decide +kernel)
    (case ve_BadText => first | k_is | rfl | decide +kernel)
    (case me_BadText => first | k_is | rfl | decide +kernel)
    (case mo_BadText => first | k_is | rfl | decide +kernel)
    (case ty_BadText => first | k_is | rfl | decide +kernel)
    (case hd_BadText => first | k_is | rfl | decide +kernel)
    (case li_BadText => first | k_is | rfl | decide +kernel)
    (case ci_BadText => first | k_is | rfl | decide +kernel)
    (case lk_BadText => first | k_is | rfl | decide +kernel)
    (case vk_BadText => first | k_is | rfl | decide +kernel)
    (case fk_BadText => first | k_is | rfl | decide +kernel)
    (case lc_BadText => first | k_is | rfl | decide +kernel)
    (case a_BadWidth => first | k_is | rfl | decide +kernel)
    (case l_BadWidth => first | k_is | rfl | decide +kernel)
    (case rv_BadWidth => first | k_is | rfl | decide +kernel)
    (case sup_BadWidth => first | k_is | rfl | decide +kernel)
    (case sa_BadWidth => first | k_is | rfl | decide +kernel)
    (case ga_BadWidth => first | k_is | rfl | decide +kernel)
    (case gg_BadWidth => first | k_is | rfl | decide +kernel)
    (case no_BadWidth => first | k_is | rfl | decide +kernel)
    (case ca_BadWidth => first | k_is | rfl | decide +kernel)
    (case iC_BadWidth => first | k_is | rfl | decide +kernel)
    (case tC_BadWidth => first | k_is | rfl | decide +kernel)
    (case kC_BadWidth => first | k_is | rfl | decide +kernel)
    (case be_BadWidth => first | k_is | rfl | decide +kernel)
    (case ve_BadWidth => first | k_is | rfl | decide +kernel)
    (case me_BadWidth => first | k_is | rfl | decide +kernel)
    (case mo_BadWidth => first | k_is | rfl | decide +kernel)
    (case ty_BadWidth => first | k_is | rfl | decide +kernel)
    (case hd_BadWidth => first | k_is | rfl | decide +kernel)
    (case li_BadWidth => first | k_is | rfl | decide +kernel)
    (case ci_BadWidth => first | k_is | rfl | decide +kernel)
    (case lk_BadWidth => first | k_is | rfl | decide +kernel)
    (case vk_BadWidth => first | k_is | rfl | decide +kernel)
    (case fk_BadWidth => first | k_is | rfl | decide +kernel)
    (case lc_BadWidth => first | k_is | rfl | decide +kernel)
    (case a_TooWide => first | k_is | rfl | decide +kernel)
    (case l_TooWide => first | k_is | rfl | decide +kernel)
    (case rv_TooWide => first | k_is | rfl | decide +kernel)
    (case sup_TooWide => first | k_is | rfl | decide +kernel)
    (case sa_TooWide => first | k_is | rfl | decide +kernel)
    (case ga_TooWide => first | k_is | rfl | decide +kernel)
    (case gg_TooWide => first | k_is | rfl | decide +kernel)
    (case no_TooWide => first | k_is | rfl | decide +kernel)
    (case ca_TooWide => first | k_is | rfl | decide +kernel)
    (case iC_TooWide => first | k_is | rfl | decide +kernel)
    (case tC_TooWide => first | k_is | rfl | decide +kernel)
    (case kC_TooWide => first | k_is | rfl | decide +kernel)
    (case be_TooWide => first | k_is | rfl | decide +kernel)
    (case ve_TooWide => first | k_is | rfl | decide +kernel)
    (case me_TooWide => first | k_is | rfl | decide +kernel)
    (case mo_TooWide => first | k_is | rfl | decide +kernel)
    (case ty_TooWide => first | k_is | rfl | decide +kernel)
    (case hd_TooWide => first | k_is | rfl | decide +kernel)
    (case li_TooWide => first | k_is | rfl | decide +kernel)
    (case ci_TooWide => first | k_is | rfl | decide +kernel)
    (case lk_TooWide => first | k_is | rfl | decide +kernel)
    (case vk_TooWide => first | k_is | rfl | decide +kernel)
    (case fk_TooWide => first | k_is | rfl | decide +kernel)
    (case lc_TooWide => first | k_is | rfl | decide +kernel)
    (case a_CaptionError => first | k_is | rfl | decide +kernel)
    (case x_BadText_BadText => first | k_is | rfl | decide +kernel)
    (case i_BadText_BadText => first | k_is | rfl | decide +kernel)
    (case x_BadText_BadWidth => first | k_is | rfl | decide +kernel)
    (case i_BadText_BadWidth => first | k_is | rfl | decide +kernel)
    (case x_BadText_TooWide => first | k_is | rfl | decide +kernel)
    (case i_BadText_TooWide => first | k_is | rfl | decide +kernel)
    (case x_BadText_CaptionError => first | k_is | rfl | decide +kernel)
    (case i_BadText_CaptionError => first | k_is | rfl | decide +kernel)
    (case i_BadText_ValueError => first | k_is | rfl | decide +kernel)
    (case x_BadWidth_BadText => first | k_is | rfl | decide +kernel)
    (case i_BadWidth_BadText => first | k_is | rfl | decide +kernel)
    (case x_BadWidth_BadWidth => first | k_is | rfl | decide +kernel)
    (case i_BadWidth_BadWidth => first | k_is | rfl | decide +kernel)
    (case x_BadWidth_TooWide => first | k_is | rfl | decide +kernel)
    (case i_BadWidth_TooWide => first | k_is | rfl | decide +kernel)
    (case x_BadWidth_CaptionError => first | k_is | rfl | decide +kernel)
    (case i_BadWidth_CaptionError => first | k_is | rfl | decide +kernel)
    (case i_BadWidth_ValueError => first | k_is | rfl | decide +kernel)
    (case x_TooWide_BadText => first | k_is | rfl | decide +kernel)
    (case i_TooWide_BadText => first | k_is | rfl | decide +kernel)
    (case x_TooWide_BadWidth => first | k_is | rfl | decide +kernel)
    (case i_TooWide_BadWidth => first | k_is | rfl | decide +kernel)
    (case x_TooWide_TooWide => first | k_is | rfl | decide +kernel)
    (case i_TooWide_TooWide => first | k_is | rfl | decide +kernel)
    (case x_TooWide_CaptionError => first | k_is | rfl | decide +kernel)
    (case i_TooWide_CaptionError => first | k_is | rfl | decide +kernel)
    (case i_TooWide_ValueError => first | k_is | rfl | decide +kernel)
    (case op => first | k_is | rfl | decide +kernel)
    (case top => first | k_is | rfl | decide +kernel)
    (case sp => first | k_is | rfl | decide +kernel)
    (case tk => first | k_is | rfl | decide +kernel)
