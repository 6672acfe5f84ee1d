import PyProof.Rows.All
import Wide.All
import OpenK.AllK
import Wide.FinOn
import HandS.ForMost
import HandS.ForExc
import HandS.Wide
import HandS.IsInst
import HandS.TupAny
import HandS.TupMul
import HandS.Deep
import HandS.Flow
import HandS.TryMany
import HandS.ExcIs
import KE.SortData
import KE.DataCmp
import KE.DataMinMax
import HandS.WideBits
import HandS.Walk
import HandS.Rev
import KE.GoesEnum
import HandS.Zip
import HandS.WordsExc
import HandS.Exc
import HandS.SetFor
import HandS.Small
import HandS.TupSets
import HandS.Conv
import HandS.Words
import HandS.Dict
import HandS.More
import HandS.Gcd
import HandS.Style
import HandS.ExcBuiltin
import PySem.Challenge.RW_lotsinturn_k63_chances_by_hand_and_refus
import HandS.EndBits
set_option autoImplicit true
set_option Elab.async false
set_option linter.all false
set_option maxRecDepth 100000
set_option maxHeartbeats 4000000
/-! ## The evaluation layer: data, operators by their data. -/
namespace Ev
open PySem L2 PySem.Spec PyProof.Rows
open Classical in
/-- the heap without some places -/
noncomputable def hid (H : Hp) (Z : Addr → Prop) : Hp := fun a => if Z a then none else H a
theorem hid_iff {H : Hp} {Z : Addr → Prop} {a : Addr} {o : HO} : hid H Z a = some o ↔ H a = some o ∧ ¬ Z a := by
  unfold hid
  by_cases h : Z a
  · simp [h]
  · simp [h]
/-- all that stands in the one stands in the other -/
abbrev Sub (G H : Hp) : Prop := ∀ a o, G a = some o → H a = some o
theorem hid_sub {H : Hp} {Z : Addr → Prop} : Sub (hid H Z) H := fun _ _ h => (hid_iff.mp h).1
theorem hid_mono {H H' : Hp} {Z Z' : Addr → Prop} (h : ∀ a o, H a = some o → ¬ Z a → H' a = some o ∧ ¬ Z' a) : Sub (hid H Z) (hid H' Z') := fun a o e => by
  obtain ⟨e1, e2⟩ := hid_iff.mp e
  exact hid_iff.mpr (h a o e1 e2)

abbrev D := PyData
variable {K : PySem.W.Frag}
theorem rd_mono {G H : Hp} {a : Addr} {u : HO} (s : Sub G H) (h : Rd G a u) : Rd H a u := by
  rcases h with h | ⟨o, h⟩
  · exact .inl (s _ _ h)
  · exact .inr ⟨o, s _ _ h⟩
theorem sqL_mono {G H : Hp} {a : Addr} {xs : List V} (s : Sub G H) (h : SqL K G a xs) : SqL K H a xs := by
  rcases h with h | h
  · exact .inl (rd_mono s h)
  · exact .inr h
theorem sqT_mono {G H : Hp} {a : Addr} {xs : List V} (s : Sub G H) (h : SqT K G a xs) : SqT K H a xs := by
  rcases h with h | h
  · exact .inl (rd_mono s h)
  · exact .inr h
mutual
theorem dp_mono {G H : Hp} (s : Sub G H) : ∀ {v : V} {d : D}, Dp K G v d → Dp K H v d
  | _, _, .non => .non
  | _, _, .bl b => .bl b
  | _, _, .int b => .int b
  | _, _, .str b => .str b
  | _, _, .lst h1 h2 => .lst (sqL_mono s h1) (dps_mono s h2)
  | _, _, .tup h1 h2 => .tup (sqT_mono s h1) (dps_mono s h2)
theorem dps_mono {G H : Hp} (s : Sub G H) : ∀ {vs : List V} {ds : List D}, DpAll K G vs ds → DpAll K H vs ds
  | _, _, .nil => .nil
  | _, _, .cons h1 h2 => .cons (dp_mono s h1) (dps_mono s h2)
end
section
variable {H : Hp}
theorem dps_len : ∀ {vs : List V} {ds : List D}, DpAll K H vs ds → vs.length = ds.length
  | _, _, .nil => rfl
  | _, _, .cons _ t => by rw [List.length_cons, List.length_cons, dps_len t]
theorem dps_get : ∀ {vs : List V} {ds : List D} {i : Nat} {v : V}, DpAll K H vs ds → vs[i]? = some v → ∃ d, ds[i]? = some d ∧ Dp K H v d
  | _, _, _, _, .nil, e => by simp at e
  | _, _, 0, _, .cons h _, e => by simp at e; subst e; exact ⟨_, rfl, h⟩
  | _, _, i + 1, v, .cons _ t, e => by
    obtain ⟨d, h1, h2⟩ := dps_get (i := i) (v := v) t (by simpa using e)
    exact ⟨d, by simpa using h1, h2⟩
theorem dps_at : ∀ {vs : List V} {ds : List D} {i : Nat} {d : D}, DpAll K H vs ds → ds[i]? = some d → ∃ v, vs[i]? = some v ∧ Dp K H v d
  | _, _, _, _, .nil, e => by simp at e
  | _, _, 0, _, .cons h _, e => by simp at e; subst e; exact ⟨_, rfl, h⟩
  | _, _, i + 1, v, .cons _ t, e => by
    obtain ⟨d, h1, h2⟩ := dps_at (i := i) (d := v) t (by simpa using e)
    exact ⟨d, by simpa using h1, h2⟩
theorem dps_app : ∀ {vs ws : List V} {ds es : List D}, DpAll K H vs ds → DpAll K H ws es → DpAll K H (vs ++ ws) (ds ++ es)
  | _, _, _, _, .nil, s => s
  | _, _, _, _, .cons r t, s => .cons r (dps_app t s)
theorem dps_take : ∀ {vs : List V} {ds : List D} (n : Nat), DpAll K H vs ds → DpAll K H (vs.take n) (ds.take n)
  | _, _, 0, _ => .nil
  | _, _, _ + 1, .nil => .nil
  | _, _, n + 1, .cons r t => .cons r (dps_take n t)
theorem dps_drop : ∀ {vs : List V} {ds : List D} (n : Nat), DpAll K H vs ds → DpAll K H (vs.drop n) (ds.drop n)
  | _, _, 0, r => r
  | _, _, _ + 1, .nil => .nil
  | _, _, n + 1, .cons _ t => dps_drop n t
theorem dps_rev {vs : List V} {ds : List D} (h : DpAll K H vs ds) : DpAll K H vs.reverse ds.reverse := by
  induction h using DpAll.rec (motive_1 := fun _ _ _ => True) with
  | non | bl | int | str | lst | tup => trivial
  | nil => exact .nil
  | cons h1 h2 _ ih => rw [List.reverse_cons, List.reverse_cons]; exact dps_app ih (.cons h1 .nil)
theorem dps_set : ∀ {vs : List V} {ds : List D} {v : V} {d : D} (i : Nat), DpAll K H vs ds → Dp K H v d → DpAll K H (vs.set i v) (ds.set i d)
  | _, _, _, _, _, .nil, _ => .nil
  | _, _, _, _, 0, .cons _ t, h => .cons h t
  | _, _, _, _, i + 1, .cons r t, h => .cons r (dps_set i t h)
theorem dps_erase : ∀ {vs : List V} {ds : List D} (i : Nat), DpAll K H vs ds → DpAll K H (vs.eraseIdx i) (ds.eraseIdx i)
  | _, _, _, .nil => .nil
  | _, _, 0, .cons _ t => t
  | _, _, i + 1, .cons r t => .cons r (dps_erase i t)
theorem dps_rep {vs : List V} {ds : List D} (h : DpAll K H vs ds) : ∀ k : Nat, DpAll K H (List.replicate k vs).flatten (List.replicate k ds).flatten
  | 0 => .nil
  | k + 1 => by rw [List.replicate_succ, List.replicate_succ, List.flatten_cons, List.flatten_cons]; exact dps_app h (dps_rep h k)
theorem dps_ints : ∀ ns : List Int, DpAll K H (ns.map V.int) (ns.map PyData.int)
  | [] => .nil
  | n :: ns => .cons (.int n) (dps_ints ns)
/-- ints as data are ints as values -/
theorem dps_int_inv : ∀ {vs : List V} {ns : List Int}, DpAll K H vs (ns.map PyData.int) → vs = ns.map V.int
  | _, [], h => by cases h; rfl
  | _, n :: ns, h => by
    cases h with
    | cons h1 h2 => cases h1; rw [dps_int_inv h2]; rfl
theorem dps_bl_inv : ∀ {vs : List V} {ns : List Bool}, DpAll K H vs (ns.map PyData.bool) → vs = ns.map V.bl
  | _, [], h => by cases h; rfl
  | _, n :: ns, h => by
    cases h with
    | cons h1 h2 => cases h1; rw [dps_bl_inv h2]; rfl
end

/-- what an operator gives: a thing that is data, or a new list -/
inductive RR where
  | sol (d : D) | lst (ds : List D)
open Classical in
/-- the region and all that is new -/
noncomputable def Hx (G H H' : Hp) : Hp := fun a => if H a = none then H' a else G a
theorem hx_old {G H H' : Hp} (s : Sub G H) : Sub G (Hx G H H') := fun a o e => by
  unfold Hx
  rw [if_neg (by rw [s a o e]; simp)]
  exact e
theorem hx_new {G H H' : Hp} {a : Addr} {o : HO} (n : H a = none) (e : H' a = some o) : Hx G H H' a = some o := by
  unfold Hx
  rw [if_pos n]
  exact e
theorem hx_refl {G H : Hp} (s : Sub G H) : Sub (Hx G H H) G := fun a o e => by
  unfold Hx at e
  split at e
  · rename_i n; rw [n] at e; cases e
  · exact e
/-- a dict's data at its place: int and text keys -/
def keyD : Key → D
  | .inl i => .int i
  | .inr x => .str x
def KvD (K : PySem.W.Frag) (G : Hp) : List (Key × V) → List (D × D) → Prop := Paired fun p q => keyD p.1 = q.1 ∧ Dp K G p.2 q.2
def DicAt (K : PySem.W.Frag) (G H : Hp) (a : Addr) (kvs : List (D × D)) : Prop := ∃ ks, H a = some (.dK ks) ∧ KvD K G ks kvs
/-- a value as it is read at H, what is in it in the region G -/
def Dv (K : PySem.W.Frag) (G H : Hp) (x : V) : D → Prop
  | .list ds => ∃ a vs, x = .ref a ∧ SqL K H a vs ∧ DpAll K G vs ds
  | .dict kvs => ∃ a, x = .ref a ∧ DicAt K G H a kvs
  | d => Dp K G x d
theorem dv_of {G H : Hp} (s : Sub G H) {x : V} {d : D} (h : Dp K G x d) : Dv K G H x d := by
  cases h with
  | non => exact .non
  | bl => exact .bl _
  | int => exact .int _
  | str => exact .str _
  | lst h1 h2 => exact ⟨_, _, rfl, sqL_mono s h1, h2⟩
  | tup h1 h2 => exact .tup h1 h2
/-- data without dicts in front -/
def noDict : D → Bool
  | .dict _ => false
  | _ => true
theorem dp_of_dv {G H : Hp} (s : Sub G H) {x : V} {d : D} (h : Dv K G H x d) (n : noDict d = true) : Dp K H x d := by
  cases d with
  | none => cases h; exact .non
  | bool => cases h; exact .bl _
  | int => cases h; exact .int _
  | str => cases h; exact .str _
  | list ds => obtain ⟨a, vs, rfl, h1, h2⟩ := h; exact .lst h1 (dps_mono s h2)
  | tuple ds => exact dp_mono s h
  | dict => cases n
def Out (K : PySem.W.Frag) (G H : Hp) (rr : RR) (Q : VK) : Prop := match rr with
  | .sol d => ∀ v H', Same H H' → Dp K (Hx G H H') v d → Q v H'
  | .lst ds => ∀ p vs H', Same H H' → H p = none → H' p = some (.lst vs) → DpAll K (hid (Hx G H H') (· = p)) vs ds → Q (.ref p) H'
def rD1 (K : PySem.W.Frag) (g : D → Option RR) : V → Hp → VK → Prop := fun x H Q => ∃ G d rr, Sub G H ∧ Dv K G H x d ∧ g d = some rr ∧ Out K G H rr Q
def rD2 (K : PySem.W.Frag) (g : D → D → Option RR) : R2 := fun x y H Q => ∃ G d e rr, Sub G H ∧ Dv K G H x d ∧ Dv K G H y e ∧ g d e = some rr ∧ Out K G H rr Q
def DvAll (K : PySem.W.Frag) (G H : Hp) : List V → List D → Prop := Paired (Dv K G H)
def rDn (K : PySem.W.Frag) (g : List D → Option RR) : List V → Hp → VK → Prop := fun xs H Q => ∃ G ds rr, Sub G H ∧ DvAll K G H xs ds ∧ g ds = some rr ∧ Out K G H rr Q
theorem out_sol {G H : Hp} (s : Sub G H) {d : D} {Q : VK} {v : V} (o : Out K G H (.sol d) Q) (h : Dp K G v d) : Q v H :=
  o v H (Same.refl H) (dp_mono (hx_old s) h)
theorem same_upd {H : Hp} {p : Addr} {o : HO} (n : H p = none) : Same H (upd H p o) := fun b u e => by
  rw [upd_ne (ne_of_none e n)]; exact e
theorem out_tup {G H : Hp} (s : Sub G H) {ds : List D} {vs : List V} {Q : VK} {p : Addr} (o : Out K G H (.sol (.tuple ds)) Q) (n : H p = none) (h : DpAll K G vs ds) : Q (.ref p) (upd H p (.tup vs)) :=
  o _ _ (same_upd n) (.tup (SqT.of (hx_new n upd_same)) (dps_mono (hx_old s) h))
theorem out_lst {G H : Hp} (s : Sub G H) {ds : List D} {vs : List V} {Q : VK} {p : Addr} (o : Out K G H (.lst ds) Q) (n : H p = none) (h : DpAll K G vs ds) : Q (.ref p) (upd H p (.lst vs)) :=
  o p vs _ (same_upd n) n upd_same (dps_mono (fun a u e => hid_iff.mpr ⟨hx_old s a u e, fun z => by subst z; rw [s _ _ e] at n; cases n⟩) h)

/-! ### operators -/
abbrev lim : Nat := 16777216
theorem lim_line {n : Nat} (h : n ≤ lim) : n ≤ sizeLine := by rw [sizeLine_eq]; exact h
def dAdd : D → D → Option RR
  | .int a, .int b => some (.sol (.int (a + b)))
  | .str a, .str b => if a.length + b.length ≤ lim then some (.sol (.str (a ++ b))) else none
  | .list a, .list b => if a.length + b.length ≤ lim then some (.lst (a ++ b)) else none
  | .tuple a, .tuple b => if a.length + b.length ≤ lim then some (.sol (.tuple (a ++ b))) else none
  | _, _ => none
def dSub : D → D → Option RR
  | .int a, .int b => some (.sol (.int (a - b)))
  | _, _ => none
def dMul : D → D → Option RR
  | .int a, .int b => if a.natAbs.log2 + b.natAbs.log2 ≤ 134000000 then some (.sol (.int (a * b))) else none
  | _, _ => none
def dDiv : D → D → Option RR
  | .int a, .int b => if 0 < b ∧ b.natAbs.log2 < 9000 then some (.sol (.int (a / b))) else if b ≠ 0 ∧ b.natAbs < 1073741824 then some (.sol (.int (a.fdiv b))) else none
  | _, _ => none
def dMod : D → D → Option RR
  | .int a, .int b => if b ≠ 0 then some (.sol (.int (a.fmod b))) else none
  | _, _ => none
def dPow : D → D → Option RR
  | .int a, .int b => if 0 ≤ b ∧ b ≤ 1000000 ∧ a.natAbs < 2 ^ 64 then some (.sol (.int (a ^ b.toNat))) else none
  | _, _ => none
def dNeg : D → Option RR
  | .int a => some (.sol (.int (-a)))
  | _ => none
section
variable {X : Cx}
theorem dvInt {G H : Hp} {x : V} {i : Int} (h : Dv K G H x (.int i)) : x = .int i := by cases h; rfl
theorem dvBl {G H : Hp} {x : V} {i : Bool} (h : Dv K G H x (.bool i)) : x = .bl i := by cases h; rfl
theorem dvStr {G H : Hp} {x : V} {i : Str} (h : Dv K G H x (.str i)) : x = .str i := by cases h; rfl
theorem dvNon {G H : Hp} {x : V} (h : Dv K G H x .none) : x = .non := by cases h; rfl
theorem dvTup {G H : Hp} {x : V} {ds : List D} (h : Dv K G H x (.tuple ds)) : ∃ a vs, x = .ref a ∧ SqT K G a vs ∧ DpAll K G vs ds := by
  cases h with
  | tup h1 h2 => exact ⟨_, _, rfl, h1, h2⟩
theorem op_imp {f : Value → Value → Sem Value} {r r' : R2} (h : OpR X f r) (i : ∀ x y H Q, r' x y H Q → r x y H Q) : OpR X f r' :=
  fun pins s σ H x y v u Q I rx ry w => h pins s σ H x y v u Q I rx ry (i _ _ _ _ w)
theorem un_imp {f : Value → Sem Value} {r r' : V → Hp → VK → Prop} (h : UnR X f r) (i : ∀ x H Q, r' x H Q → r x H Q) : UnR X f r' :=
  fun pins s σ H x v Q I rx w => h pins s σ H x v Q I rx (i _ _ _ w)
theorem call_imp {f : Value} {r r' : List V → Hp → VK → Prop} (h : CallR X f r) (i : ∀ x H Q, r' x H Q → r x H Q) : CallR X f r' :=
  fun pins s σ H x v Q I rx w => h pins s σ H x v Q I rx (i _ _ _ w)
end
end Ev

set_option autoImplicit true
set_option Elab.async false
set_option linter.all false
set_option maxRecDepth 100000
set_option maxHeartbeats 4000000
namespace Ev
open PySem L2 PySem.Spec PyProof.Rows
section
variable {X : Cx} {K : PySem.W.Frag}
theorem rI_of {G H : Hp} {x y : V} {d e : D} {i j : Int} (hd : d = .int i) (he : e = .int j) (dx : Dv K G H x d) (dy : Dv K G H y e) : x = .int i ∧ y = .int j := by
  subst hd he
  exact ⟨dvInt dx, dvInt dy⟩
theorem op_subD : OpR X (binaryOp .Sub) (rD2 X.K dSub) := op_imp op_sub fun x y H Q ⟨G, d, e, rr, s, dx, dy, g, o⟩ => by
  cases d with
  | int i =>
    cases e with
    | int j =>
      cases g
      exact ⟨i, j, dvInt dx, dvInt dy, out_sol s o (.int _)⟩
    | none | bool | str | list | tuple | dict => cases g
  | none | bool | str | list | tuple | dict => cases g
theorem op_modD : OpR X (binaryOp .Mod) (rD2 X.K dMod) := op_imp op_modN fun x y H Q ⟨G, d, e, rr, s, dx, dy, g, o⟩ => by
  cases d with
  | int i =>
    cases e with
    | int j =>
      simp only [dMod] at g
      split at g
      · rename_i h
        cases g
        exact ⟨i, j, dvInt dx, dvInt dy, h, out_sol s o (.int _)⟩
      · cases g
    | none | bool | str | list | tuple | dict => cases g
  | none | bool | str | list | tuple | dict => cases g
theorem op_powD : OpR X (binaryOp .Pow) (rD2 X.K dPow) := op_imp op_pow fun x y H Q ⟨G, d, e, rr, s, dx, dy, g, o⟩ => by
  cases d with
  | int i =>
    cases e with
    | int j =>
      simp only [dPow] at g
      split at g
      · rename_i h
        cases g
        exact ⟨i, j, dvInt dx, dvInt dy, h, out_sol s o (.int _)⟩
      · cases g
    | none | bool | str | list | tuple | dict => cases g
  | none | bool | str | list | tuple | dict => cases g
theorem op_divD : OpR X (binaryOp .FloorDiv) (rD2 X.K dDiv) := op_imp (op_fdivW.or op_fdivN) fun x y H Q ⟨G, d, e, rr, s, dx, dy, g, o⟩ => by
  cases d with
  | int i =>
    cases e with
    | int j =>
      simp only [dDiv] at g
      split at g
      · rename_i h
        cases g
        exact .inl ⟨i, j, dvInt dx, dvInt dy, h, out_sol s o (.int _)⟩
      · split at g
        · rename_i h
          cases g
          exact .inr ⟨i, j, dvInt dx, dvInt dy, h, out_sol s o (.int _)⟩
        · cases g
    | none | bool | str | list | tuple | dict => cases g
  | none | bool | str | list | tuple | dict => cases g
theorem un_negD : UnR X (unaryOp .USub) (rD1 X.K dNeg) := un_imp un_neg fun x H Q ⟨G, d, rr, s, dx, g, o⟩ => by
  cases d with
  | int i =>
    cases g
    exact ⟨i, dvInt dx, out_sol s o (.int _)⟩
  | none | bool | str | list | tuple | dict => cases g
/-- list + list, whatever lists -/
def rCatL (K : PySem.W.Frag) : R2 := fun x y H Q => ∃ l b xs zs, x = .ref l ∧ y = .ref b ∧ SqL K H l xs ∧ SqL K H b zs ∧ xs.length + zs.length ≤ sizeLine ∧ ∀ p, H p = none → Q (.ref p) (upd H p (.lst (xs ++ zs)))
theorem op_catL : OpR X (binaryOp .Add) (rCatL X.K) := by
  intro pins s σ H x y v u Q I rx ry h
  obtain ⟨l, b, xs, zs, rfl, rfl, hH, hB, hz, q⟩ := h
  cases rx
  cases ry
  obtain ⟨its, r, ⟨⟨cls, dd, data, sl⟩, n, ho, hc, hdd, hd⟩, _⟩ := I.list hH
  obtain ⟨its2, r2, ⟨⟨cls2, dd2, data2, sl2⟩, n2, ho2, hc2, hdd2, hd2⟩, _⟩ := I.list hB
  simp only at hc hd hc2 hd2
  subst hc hd hc2 hd2
  have e : its.toArray ++ its2.toArray = (its ++ its2).toArray := by simp
  have e1 := r.length
  have e2 := r2.length
  refine concat_meets ⟨_, ho, rfl⟩ ⟨_, ho2, rfl⟩ noFill_list_add seq_list_add PySem.F.slot_list_add PySem.F.entry_list_add (PySem.F.args_list_add_2 _ _) (list_addW l b its.toArray its2.toArray n n2 dd dd2 sl sl2 (by simpa using (by omega : its.length + its2.length ≤ sizeLine))) ⟨ho, ho2, ?_⟩
  rw [e]
  exact ⟨.ref s.heap.objs.size, _, I.lnew (t' := s.toks) (r.append r2) (by rw [List.length_append]; omega), rfl, q _ I.fresh⟩
theorem op_addD : OpR X (binaryOp .Add) (rD2 X.K dAdd) := op_imp (op_add.or (op_add_str.or (op_catL.or op_catA))) fun x y H Q ⟨G, d, e, rr, s, dx, dy, g, o⟩ => by
  cases d with
  | int i =>
    cases e with
    | int j =>
      cases g
      exact .inl ⟨i, j, dvInt dx, dvInt dy, out_sol s o (.int _)⟩
    | none | bool | str | list | tuple | dict => cases g
  | str i =>
    cases e with
    | str j =>
      simp only [dAdd] at g
      split at g
      · rename_i h
        cases g
        exact .inr (.inl ⟨i, j, dvStr dx, dvStr dy, lim_line h, out_sol s o (.str _)⟩)
      · cases g
    | none | bool | int | list | tuple | dict => cases g
  | list i =>
    cases e with
    | list j =>
      simp only [dAdd] at g
      split at g
      · rename_i h
        cases g
        obtain ⟨a, vs, rfl, h1, h2⟩ := dx
        obtain ⟨b, ws, rfl, k1, k2⟩ := dy
        refine .inr (.inr (.inl ⟨a, b, vs, ws, rfl, rfl, h1, k1, ?_, fun p n => out_lst s o n (dps_app h2 k2)⟩))
        rw [dps_len h2, dps_len k2]
        exact lim_line h
      · cases g
    | none | bool | int | str | tuple | dict => cases g
  | tuple i =>
    cases e with
    | tuple j =>
      simp only [dAdd] at g
      split at g
      · rename_i h
        cases g
        obtain ⟨a, vs, rfl, h1, h2⟩ := dvTup dx
        obtain ⟨b, ws, rfl, k1, k2⟩ := dvTup dy
        have l1 := dps_len h2
        have l2 := dps_len k2
        refine .inr (.inr (.inr ⟨a, b, vs, ws, rfl, rfl, sqT_mono s h1, sqT_mono s k1, ?_, ?_, ?_, fun _ _ p n => out_tup s o n (dps_app h2 k2)⟩))
        · rw [l1, l2]
          exact lim_line h
        · rintro rfl
          have e0 : i = [] := List.eq_nil_of_length_eq_zero (by rw [← l1]; rfl)
          subst e0
          exact out_sol s o (.tup k1 k2)
        · rintro - rfl
          have e0 : j = [] := List.eq_nil_of_length_eq_zero (by rw [← l2]; rfl)
          subst e0
          rw [List.append_nil] at o
          exact out_sol s o (.tup h1 h2)
      · cases g
    | none | bool | int | str | list | dict => cases g
  | none | bool | dict => cases g
theorem mulX_of {i j : Int} (h : i.natAbs.log2 + j.natAbs.log2 ≤ 134000000) : CMulX i j := by
  have b : ∀ x : Int, Builtin.Int.intBits x ≤ x.natAbs.log2 + 1 := fun x => by
    unfold Builtin.Int.intBits
    split <;> omega
  have b1 := b i
  have b2 := b j
  unfold CMulX
  omega
theorem op_mulD : OpR X (binaryOp .Mult) (rD2 X.K dMul) := op_imp op_mulX fun x y H Q ⟨G, d, e, rr, s, dx, dy, g, o⟩ => by
  cases d with
  | int i =>
    cases e with
    | int j =>
      simp only [dMul] at g
      split at g
      · rename_i h
        cases g
        exact ⟨i, j, dvInt dx, dvInt dy, mulX_of h, out_sol s o (.int _)⟩
      · cases g
    | none | bool | str | list | tuple | dict => cases g
  | none | bool | str | list | tuple | dict => cases g

/-! ### comparisons -/
def dEq (d e : D) : Option RR := if noDict d = true ∧ noDict e = true ∧ SeqAt.shaped d = true ∧ SeqAt.shaped e = true then some (.sol (.bool (PyData.eqv d e))) else none
def dNe (d e : D) : Option RR := if noDict d = true ∧ noDict e = true ∧ SeqAt.shaped d = true ∧ SeqAt.shaped e = true then some (.sol (.bool (!PyData.eqv d e))) else none
theorem op_eqDD (hu : X.A.units + 64 < cLine) : OpR X (compareOp .Eq) (rD2 X.K dEq) := op_imp (op_eqD hu) fun x y H Q ⟨G, d, e, rr, s, dx, dy, g, o⟩ => by
  unfold dEq at g
  split at g
  · rename_i h
    obtain ⟨n1, n2, s1, s2⟩ := h
    cases g
    exact ⟨d, e, dp_of_dv s dx n1, dp_of_dv s dy n2, s1, s2, out_sol s o (.bl _)⟩
  · cases g
theorem op_neDD (hu : X.A.units + 64 < cLine) : OpR X (compareOp .NotEq) (rD2 X.K dNe) := op_imp (op_neD hu) fun x y H Q ⟨G, d, e, rr, s, dx, dy, g, o⟩ => by
  unfold dNe at g
  split at g
  · rename_i h
    obtain ⟨n1, n2, s1, s2⟩ := h
    cases g
    exact ⟨d, e, dp_of_dv s dx n1, dp_of_dv s dy n2, s1, s2, out_sol s o (.bl _)⟩
  · cases g
/-- data that may be compared by < -/
def cmpOk (d e : D) : Bool := noDict d && noDict e && PySem.W.alike d e && (match d with | .none => false | _ => true) && decide (d.depth ≤ 60)
def rCmp (K : PySem.W.Frag) (f : D → D → Bool) : R2 := fun x y H Q => ∃ d e, Dp K H x d ∧ Dp K H y e ∧ cmpOk d e = true ∧ Q (.bl (f d e)) H
theorem cmpOk_all {d e : D} (h : cmpOk d e = true) : noDict d = true ∧ noDict e = true ∧ PySem.W.alike d e = true ∧ d ≠ .none ∧ d.depth ≤ 60 := by
  unfold cmpOk at h
  simp only [Bool.and_eq_true, decide_eq_true_eq] at h
  obtain ⟨⟨⟨⟨a, b⟩, c⟩, n⟩, dd⟩ := h
  refine ⟨a, b, c, ?_, dd⟩
  rintro rfl
  cases n
theorem op_ltR (hu : X.A.units + 64 < cLine) : OpR X (compareOp .Lt) (rCmp X.K PySem.W.dataLt) := by
  intro pins s σ H x y v u Q I rx ry h
  obtain ⟨d, e, hd, he, hc, q⟩ := h
  obtain ⟨_, _, c, n, dd⟩ := cmpOk_all hc
  obtain ⟨as, r1⟩ := Dp.reads I d x v hd rx
  obtain ⟨bs, r2⟩ := Dp.reads I e y u he ry
  exact PySem.W.lt_data r1 r2 c n (by have := Nat.min_le_left d.depth e.depth; omega) ⟨.bl _, H, I, rfl, q⟩
theorem op_gtR (hu : X.A.units + 64 < cLine) : OpR X (compareOp .Gt) (rCmp X.K fun d e => PySem.W.dataLt e d) := by
  intro pins s σ H x y v u Q I rx ry h
  obtain ⟨d, e, hd, he, hc, q⟩ := h
  obtain ⟨_, _, c, n, dd⟩ := cmpOk_all hc
  obtain ⟨as, r1⟩ := Dp.reads I d x v hd rx
  obtain ⟨bs, r2⟩ := Dp.reads I e y u he ry
  exact PySem.W.gt_data r1 r2 c n (by have := Nat.min_le_left d.depth e.depth; omega) ⟨.bl _, H, I, rfl, q⟩
theorem op_leR (hu : X.A.units + 64 < cLine) : OpR X (compareOp .LtE) (rCmp X.K fun d e => !PySem.W.dataLt e d) := by
  intro pins s σ H x y v u Q I rx ry h
  obtain ⟨d, e, hd, he, hc, q⟩ := h
  obtain ⟨_, _, c, n, dd⟩ := cmpOk_all hc
  obtain ⟨as, r1⟩ := Dp.reads I d x v hd rx
  obtain ⟨bs, r2⟩ := Dp.reads I e y u he ry
  exact PySem.W.le_data r1 r2 c n (by have := Nat.min_le_left d.depth e.depth; omega) ⟨.bl _, H, I, rfl, q⟩
theorem op_geR (hu : X.A.units + 64 < cLine) : OpR X (compareOp .GtE) (rCmp X.K fun d e => !PySem.W.dataLt d e) := by
  intro pins s σ H x y v u Q I rx ry h
  obtain ⟨d, e, hd, he, hc, q⟩ := h
  obtain ⟨_, _, c, n, dd⟩ := cmpOk_all hc
  obtain ⟨as, r1⟩ := Dp.reads I d x v hd rx
  obtain ⟨bs, r2⟩ := Dp.reads I e y u he ry
  exact PySem.W.ge_data r1 r2 c n (by have := Nat.min_le_left d.depth e.depth; omega) ⟨.bl _, H, I, rfl, q⟩
/-- ints by their own order, all else by the order of data -/
def cmpBy (f : D → D → Bool) (g : Int → Int → Bool) : D → D → Option RR
  | .int a, .int b => some (.sol (.bool (g a b)))
  | d, e => if cmpOk d e = true then some (.sol (.bool (f d e))) else none
def dLt : D → D → Option RR := cmpBy PySem.W.dataLt fun a b => decide (a < b)
def dGt : D → D → Option RR := cmpBy (fun d e => PySem.W.dataLt e d) fun a b => decide (b < a)
def dLe : D → D → Option RR := cmpBy (fun d e => !PySem.W.dataLt e d) fun a b => decide (a ≤ b)
def dGe : D → D → Option RR := cmpBy (fun d e => !PySem.W.dataLt d e) fun a b => decide (b ≤ a)
theorem op_cmpD {op : CmpOp} {f : D → D → Bool} {g : Int → Int → Bool} (h1 : OpR X (compareOp op) (rCmp X.K f)) (h2 : OpR X (compareOp op) (rI0 fun i j => .bl (g i j))) : OpR X (compareOp op) (rD2 X.K (cmpBy f g)) := op_imp (h2.or h1) fun x y H Q ⟨G, d, e, rr, s, dx, dy, gg, o⟩ => by
  unfold cmpBy at gg
  split at gg
  · cases gg
    exact .inl ⟨_, _, dvInt dx, dvInt dy, out_sol s o (.bl _)⟩
  · split at gg
    · rename_i h
      cases gg
      obtain ⟨n1, n2, _, _, _⟩ := cmpOk_all h
      exact .inr ⟨d, e, dp_of_dv s dx n1, dp_of_dv s dy n2, h, out_sol s o (.bl _)⟩
    · cases gg
theorem op_ltD (hu : X.A.units + 64 < cLine) : OpR X (compareOp .Lt) (rD2 X.K dLt) := op_cmpD (op_ltR hu) op_lt
theorem op_gtD (hu : X.A.units + 64 < cLine) : OpR X (compareOp .Gt) (rD2 X.K dGt) := op_cmpD (op_gtR hu) op_gt
theorem op_leD (hu : X.A.units + 64 < cLine) : OpR X (compareOp .LtE) (rD2 X.K dLe) := op_cmpD (op_leR hu) op_le
theorem op_geD (hu : X.A.units + 64 < cLine) : OpR X (compareOp .GtE) (rD2 X.K dGe) := op_cmpD (op_geR hu) op_ge
/-- x in s (list, tuple) -/
def dIn : D → D → Option RR
  | d, .list ds => if noDict d = true ∧ SeqAt.shaped d = true ∧ SeqAt.shaped (.list ds) = true then some (.sol (.bool (ds.any fun z => PyData.eqv z d))) else none
  | d, .tuple ds => if noDict d = true ∧ SeqAt.shaped d = true ∧ SeqAt.shaped (.tuple ds) = true then some (.sol (.bool (ds.any fun z => PyData.eqv z d))) else none
  | _, _ => none
def dNotIn : D → D → Option RR
  | d, .list ds => if noDict d = true ∧ SeqAt.shaped d = true ∧ SeqAt.shaped (.list ds) = true then some (.sol (.bool (!ds.any fun z => PyData.eqv z d))) else none
  | d, .tuple ds => if noDict d = true ∧ SeqAt.shaped d = true ∧ SeqAt.shaped (.tuple ds) = true then some (.sol (.bool (!ds.any fun z => PyData.eqv z d))) else none
  | _, _ => none
def rInT (K : PySem.W.Frag) : R2 := fun x y H Q => ∃ d ds, Dp K H x d ∧ Dp K H y (.tuple ds) ∧ SeqAt.shaped d = true ∧ SeqAt.shaped (.tuple ds) = true ∧ Q (.bl (ds.any fun z => PyData.eqv z d)) H
def rNotInT (K : PySem.W.Frag) : R2 := fun x y H Q => ∃ d ds, Dp K H x d ∧ Dp K H y (.tuple ds) ∧ SeqAt.shaped d = true ∧ SeqAt.shaped (.tuple ds) = true ∧ Q (.bl (!ds.any fun z => PyData.eqv z d)) H
theorem op_inT (hu : X.A.units + 65 < cLine) : OpR X (compareOp .In) (rInT X.K) := by
  intro pins s σ H x y v u Q I rx ry h
  obtain ⟨d, ds, hd, he, sd, se, q⟩ := h
  obtain ⟨as, r1⟩ := Dp.reads I d x v hd rx
  obtain ⟨bs, r2⟩ := Dp.reads I (.tuple ds) y u he ry
  exact SeqAt.in_tuple_reads r2 r1 (SeqAt.canLay_of_shaped se) (SeqAt.canLay_of_shaped sd) (room_in_shaped sd hu) ⟨.bl _, H, I, rfl, q⟩
theorem op_notInT (hu : X.A.units + 65 < cLine) : OpR X (compareOp .NotIn) (rNotInT X.K) := by
  intro pins s σ H x y v u Q I rx ry h
  obtain ⟨d, ds, hd, he, sd, se, q⟩ := h
  obtain ⟨as, r1⟩ := Dp.reads I d x v hd rx
  obtain ⟨bs, r2⟩ := Dp.reads I (.tuple ds) y u he ry
  exact SeqAt.notIn_tuple_reads r2 r1 (SeqAt.canLay_of_shaped se) (SeqAt.canLay_of_shaped sd) (room_in_shaped sd hu) ⟨.bl _, H, I, rfl, q⟩
theorem op_inDD (hu : X.A.units + 65 < cLine) : OpR X (compareOp .In) (rD2 X.K dIn) := op_imp ((op_inD hu).or (op_inT hu)) fun x y H Q ⟨G, d, e, rr, s, dx, dy, g, o⟩ => by
  unfold dIn at g
  split at g
  · split at g
    · rename_i h
      cases g
      exact .inl ⟨_, _, dp_of_dv s dx h.1, dp_of_dv s dy rfl, h.2.1, h.2.2, out_sol s o (.bl _)⟩
    · cases g
  · split at g
    · rename_i h
      cases g
      exact .inr ⟨_, _, dp_of_dv s dx h.1, dp_of_dv s dy rfl, h.2.1, h.2.2, out_sol s o (.bl _)⟩
    · cases g
  · cases g
theorem op_notInDD (hu : X.A.units + 65 < cLine) : OpR X (compareOp .NotIn) (rD2 X.K dNotIn) := op_imp ((op_notInD hu).or (op_notInT hu)) fun x y H Q ⟨G, d, e, rr, s, dx, dy, g, o⟩ => by
  unfold dNotIn at g
  split at g
  · split at g
    · rename_i h
      cases g
      exact .inl ⟨_, _, dp_of_dv s dx h.1, dp_of_dv s dy rfl, h.2.1, h.2.2, out_sol s o (.bl _)⟩
    · cases g
  · split at g
    · rename_i h
      cases g
      exact .inr ⟨_, _, dp_of_dv s dx h.1, dp_of_dv s dy rfl, h.2.1, h.2.2, out_sol s o (.bl _)⟩
    · cases g
  · cases g
/-- is None, is not None -/
def dIs : D → D → Option RR
  | .none, .none => some (.sol (.bool true))
  | .bool a, .none => some (.sol (.bool false))
  | .int a, .none => some (.sol (.bool false))
  | .str a, .none => some (.sol (.bool false))
  | .list a, .none => some (.sol (.bool false))
  | .tuple a, .none => some (.sol (.bool false))
  | _, _ => none
def dIsNot : D → D → Option RR
  | .none, .none => some (.sol (.bool false))
  | .bool a, .none => some (.sol (.bool true))
  | .int a, .none => some (.sol (.bool true))
  | .str a, .none => some (.sol (.bool true))
  | .list a, .none => some (.sol (.bool true))
  | .tuple a, .none => some (.sol (.bool true))
  | _, _ => none
theorem dIs_fit {G H : Hp} {x y : V} {d e : D} {rr : RR} (dx : Dv K G H x d) (dy : Dv K G H y e) (g : dIs d e = some rr) : y = .non ∧ rr = .sol (.bool (decide (x = .non))) := by
  unfold dIs at g
  split at g
  · cases dx; cases dy; cases g; exact ⟨rfl, rfl⟩
  · cases dx; cases dy; cases g; exact ⟨rfl, rfl⟩
  · cases dx; cases dy; cases g; exact ⟨rfl, rfl⟩
  · cases dx; cases dy; cases g; exact ⟨rfl, rfl⟩
  · obtain ⟨a, vs, rfl, _⟩ := dx; cases dy; cases g; exact ⟨rfl, rfl⟩
  · cases dx; cases dy; cases g; exact ⟨rfl, rfl⟩
  · cases g
theorem dIsNot_fit {G H : Hp} {x y : V} {d e : D} {rr : RR} (dx : Dv K G H x d) (dy : Dv K G H y e) (g : dIsNot d e = some rr) : y = .non ∧ rr = .sol (.bool (!decide (x = .non))) := by
  unfold dIsNot at g
  split at g
  · cases dx; cases dy; cases g; exact ⟨rfl, rfl⟩
  · cases dx; cases dy; cases g; exact ⟨rfl, rfl⟩
  · cases dx; cases dy; cases g; exact ⟨rfl, rfl⟩
  · cases dx; cases dy; cases g; exact ⟨rfl, rfl⟩
  · obtain ⟨a, vs, rfl, _⟩ := dx; cases dy; cases g; exact ⟨rfl, rfl⟩
  · cases dx; cases dy; cases g; exact ⟨rfl, rfl⟩
  · cases g
theorem op_isD : OpR X (compareOp .Is) (rD2 X.K dIs) := op_imp op_isN fun x y H Q ⟨G, d, e, rr, s, dx, dy, g, o⟩ => by
  obtain ⟨rfl, rfl⟩ := dIs_fit dx dy g
  exact ⟨rfl, out_sol s o (.bl _)⟩
theorem op_isnotD : OpR X (compareOp .IsNot) (rD2 X.K dIsNot) := op_imp op_notN fun x y H Q ⟨G, d, e, rr, s, dx, dy, g, o⟩ => by
  obtain ⟨rfl, rfl⟩ := dIsNot_fit dx dy g
  exact ⟨rfl, out_sol s o (.bl _)⟩
end
end Ev

set_option autoImplicit true
set_option Elab.async false
set_option linter.all false
set_option maxRecDepth 100000
set_option maxHeartbeats 4000000
/-! sorted: tuples among which some are empty too; lists and tuples as sources -/
namespace Ev
open PySem PySem.W PySem.SeqAt PySem.Calls PyProof.Rows
section
variable {prog : Program} {w : World} {A : Around} {E : Value → Shared → Prop} {s : Shared}
theorem firsts_run {M : Model} : ∀ {vs : List Value} {ds : List PyData} {Q : List (Option Value) → Shared → Prop}, EachIs (fun v d => ∃ as, Reads s.heap v d as) vs ds → (∀ d ∈ ds, ∃ xs, d = PyData.tuple xs) →
    (∀ fs : List (Option Value), fs.length = ds.length → (∀ i : Nat, (∃ (x : PyData) (r : List PyData), ds[i]? = some (PyData.tuple (x :: r))) ↔ ∃ u : Value, fs[i]? = some (some u)) → Q fs s) → wpAny M A (vs.mapM firstOfTuple') Q E s
  | _, _, Q, .nil, _, h => by
    rw [List.mapM_nil]
    exact wpAny_pure (h [] rfl fun i => by simp)
  | _, _, Q, .cons (a := v) (b := d) (as := vs) (bs := ds) ⟨as, r⟩ t, hd, h => by
    rw [List.mapM_cons]
    obtain ⟨xs, rfl⟩ := hd d List.mem_cons_self
    refine wpAny_bind ?_
    rw [kas_first_eq]
    refine wpAny_bind ((looks_reads r).here ?_)
    have e : (dataType (PyData.tuple xs) != Value.type "tuple") = false := by rfl
    rw [e, if_neg (by simp)]
    cases r with
    | @tuple l o its n _ _ h1 h2 h3 h4 =>
      refine wpAny_bind (listItems_at h1 h3 ?_)
      refine wpAny_pure ?_
      refine wpAny_bind (firsts_run t (fun d m => hd d (List.mem_cons_of_mem _ m)) fun fs e1 e2 => wpAny_pure (h _ (by rw [List.length_cons, List.length_cons, e1]) fun i => ?_))
      cases i with
      | zero =>
        have n1 : its.size = xs.length := by simpa using SeqAt.ReadsAll.length _ _ _ h4
        constructor
        · rintro ⟨x, r, q⟩
          simp only [List.getElem?_cons_zero, Option.some.injEq, PyData.tuple.injEq] at q
          subst q
          have : 0 < its.size := by rw [n1]; exact Nat.succ_pos _
          exact ⟨its[0], by simp [this]⟩
        · rintro ⟨u, q⟩
          simp only [List.getElem?_cons_zero, Option.some.injEq] at q
          have : 0 < its.size := (Array.getElem?_eq_some_iff.mp q).1
          cases xs with
          | nil => rw [n1] at this; exact absurd this (Nat.lt_irrefl _)
          | cons x r => exact ⟨x, r, rfl⟩
      | succ i =>
        simp only [List.getElem?_cons_succ]
        exact e2 i
theorem types_run {M : Model} : ∀ {vs : List Value} {Q : List Value → Shared → Prop}, (∀ v ∈ vs, Looks M s.heap (typeOf v) (.type "tuple")) → Q (vs.map fun _ => .type "tuple") s → wpAny M A (vs.mapM typeOf) Q E s := fun h q =>
  kas_mapM _ (fun v hv Q' hq => (h v hv).here hq) q
/-- tuples, one of them empty -/
theorem kind_empty {vs : List Value} {ds : List PyData} (e : EachIs (fun v d => ∃ as, Reads s.heap v d as) vs ds) (ht : ∀ d ∈ ds, ∃ xs, d = .tuple xs) (hn : PyData.tuple [] ∈ ds) :
    ∃ kd, (kd = general' ∨ kd = oneType') ∧ ∀ (E : Value → Shared → Prop) {Q : SortKind → Shared → Prop}, Q kd s → wpAny (model prog w) A (keyKind' vs.toArray) Q E s := by
  obtain ⟨i, hi⟩ := List.mem_iff_getElem?.mp hn
  by_cases h0 : ∃ (x : PyData) (r : List PyData), ds[0]? = some (PyData.tuple (x :: r))
  · refine ⟨general', .inl rfl, fun E Q hq => ?_⟩
    rw [keyKind'_eq, List.mapM_toArray, map_eq_pure_bind]
    refine wpAny_bind (wpAny_bind (firsts_run e ht fun fs e1 e2 => wpAny_pure ?_))
    have hnot : ¬ (fs.toArray.all (·.isSome)) = true := by
      intro q
      rw [List.all_toArray, List.all_eq_true] at q
      have hl : i < fs.length := by rw [e1]; exact (List.getElem?_eq_some_iff.mp hi).1
      have := q fs[i] (List.getElem_mem hl)
      obtain ⟨u, hu⟩ := Option.isSome_iff_exists.mp this
      obtain ⟨x, r, z⟩ := (e2 i).mpr ⟨u, by rw [List.getElem?_eq_getElem hl, hu]⟩
      rw [hi] at z
      cases z
    rw [if_neg hnot]
    obtain ⟨u, hu⟩ := (e2 0).mp h0
    have hs : ((fs.toArray[0]?.bind id).isSome) = true := by
      rw [List.getElem?_toArray, hu] <;> rfl
    rw [if_pos hs]
    exact wpAny_pure hq
  · refine ⟨oneType', .inr rfl, fun E Q hq => ?_⟩
    rw [keyKind'_eq, List.mapM_toArray, map_eq_pure_bind]
    refine wpAny_bind (wpAny_bind (firsts_run e ht fun fs e1 e2 => wpAny_pure ?_))
    have hnot : ¬ (fs.toArray.all (·.isSome)) = true := by
      intro q
      rw [List.all_toArray, List.all_eq_true] at q
      have hl : i < fs.length := by rw [e1]; exact (List.getElem?_eq_some_iff.mp hi).1
      have := q fs[i] (List.getElem_mem hl)
      obtain ⟨u, hu⟩ := Option.isSome_iff_exists.mp this
      obtain ⟨x, r, z⟩ := (e2 i).mpr ⟨u, by rw [List.getElem?_eq_getElem hl, hu]⟩
      rw [hi] at z
      cases z
    rw [if_neg hnot]
    have hs : ¬ ((fs.toArray[0]?.bind id).isSome) = true := by
      intro q
      rw [List.getElem?_toArray] at q
      cases hf : fs[0]? with
      | none => rw [hf] at q; cases q
      | some o =>
        cases o with
        | none => rw [hf] at q; cases q
        | some u => exact h0 ((e2 0).mpr ⟨u, hf⟩)
    rw [if_neg hs, oneTypeOnly'_eq, List.mapM_toArray, map_eq_pure_bind]
    refine wpAny_bind (wpAny_bind (wpAny_bind (types_run (fun v hv => ?_) (wpAny_pure ?_))))
    · obtain ⟨d, hd, as, r⟩ := e.left v hv
      obtain ⟨xs, rfl⟩ := ht d hd
      exact looks_reads r
    · have hall : ((List.map (fun _ => Value.type "tuple") vs).toArray.all fun x => x == Value.type "tuple") = true := by
        simp only [List.all_toArray, List.all_map, List.all_eq_true]
        intro _ _
        rfl
      have hl := e.length
      have hp : 0 < vs.length := by
        rw [hl]
        exact Nat.lt_of_le_of_lt (Nat.zero_le _) (List.getElem?_eq_some_iff.mp hi).1
      have h0' : (List.map (fun _ => Value.type "tuple") vs).toArray[0]? = some (Value.type "tuple") := by
        rw [List.getElem?_toArray, List.getElem?_map, List.getElem?_eq_getElem hp] <;> rfl
      rw [h0']
      simp only [hall, if_true]
      exact wpAny_pure (wpAny_pure hq)
/-- as a sort of one type compares two tuples -/
theorem oneLt_tuple {f : Bool} {xs ys : List PyData} {a b : Value} {as bs : List Addr} {Q : Bool → Shared → Prop} (ra : Reads s.heap a (.tuple xs) as) (rb : Reads s.heap b (.tuple ys) bs) (h : alikeAll xs ys = true)
    (hu : A.units + min (PyData.tuple xs).depth (PyData.tuple ys).depth < cLine) (hq : Q (dataLt (.tuple xs) (.tuple ys)) s) : wpAny (model prog w) A (oneLt' f a b) Q E s := by
  cases f with
  | false =>
    rw [oneLt'_eq]
    simp only [Bool.false_eq_true, if_false]
    exact wpAny_bind (rcLt_alike (.tuple xs) (.tuple ys) A s a b as bs ra rb (by simpa [alike] using h) (fun e => nomatch e) hu prog w E _ (wpAny_truthy_bool hq))
  | true =>
    cases ra with
    | @tuple l o vs n _ as₁ h1 h2 h3 h4 =>
      cases rb with
      | @tuple l' o' vs' n' _ bs₁ k1 k2 k3 k4 =>
        have n1 : vs.size = xs.length := by simpa using SeqAt.ReadsAll.length _ _ _ h4
        have n2 : vs'.size = ys.length := by simpa using SeqAt.ReadsAll.length _ _ _ k4
        rw [dataLt_tuple, ← firstLt_toks xs ys h, ← n1, ← n2] at hq
        rw [oneLt'_eq]
        simp only [if_true]
        refine wpAny_bind (wpAny_cRoomFor (SeqAt.room_here hu) ?_)
        obtain ⟨cls, dd, data, sl⟩ := o
        obtain ⟨cls2, dd2, data2, sl2⟩ := o'
        simp only at h2 h3 k2 k3
        subst h2 h3 k2 k3
        refine wpAny_bind (wpAny_callSpecialIfBound?_slot (T := "tuple") ⟨_, h1, rfl⟩ F.slot_tuple_lt (call_meets F.slot_tuple_lt ⟨_, h1, rfl⟩ F.entry_tuple_lt (F.args_tuple_lt_2 _ _) (SeqAt.tuple_ltAt l l' vs vs' n n' dd dd2 sl sl2 (pairEq xs ys) (fun j => dataLt (xs.getD j .none) (ys.getD j .none)))
          ⟨h1, k1, fun j j1 j2 => ?_, fun j j1 j2 hj => ?_, ?_⟩))
        · have := eqAt_alikeAll xs ys A.in1 s vs.toList vs'.toList _ _ h4 k4 h (SeqAt.room_in hu) j (by simpa using j1) (by simpa using j2)
          simpa using this
        · have := rcLt_alikeAll xs ys A.in1 s vs.toList vs'.toList _ _ h4 k4 h (SeqAt.room_in hu) j (by simpa using j1) (by simpa using j2) hj
          simpa using this
        · exact wpAny_truthy_bool hq
/-- alike data can be sorted, whatever they are (None alone can't) -/
theorem sortsAt_all {vs : List Value} {ds : List PyData} (e : EachIs (fun v d => ∃ as, Reads s.heap v d as) vs ds) (hal : AllAlike ds) (hn : ∀ d ∈ ds, d ≠ .none) (hu : ∀ d, d ∈ ds → A.units + d.depth < cLine) : SortsAt prog w A s (dataKind s.heap ds) vs := by
  by_cases h1 : ∀ d ∈ ds, ∃ x r, d = PyData.tuple (x :: r)
  · exact SortsAt.data e hal (.inl h1) hu
  by_cases h2 : ∀ d ∈ ds, ∀ xs, d ≠ PyData.tuple xs
  · exact SortsAt.data e hal (.inr fun d hd => ⟨hn d hd, h2 d hd⟩) hu
  have ht : ∀ d ∈ ds, ∃ xs, d = PyData.tuple xs := by
    intro d hd
    apply Classical.byContradiction
    intro hno
    apply h2
    rintro d' hd' xs rfl
    have q := hal _ hd _ hd'
    cases d with
    | tuple ys => exact hno ⟨ys, rfl⟩
    | _ => exact absurd q (by simp [alike])
  have he : PyData.tuple [] ∈ ds := by
    apply Classical.byContradiction
    intro hno
    apply h1
    intro d hd
    obtain ⟨xs, rfl⟩ := ht d hd
    cases xs with
    | nil => exact absurd hd hno
    | cons x r => exact ⟨x, r, rfl⟩
  obtain ⟨kd, hk, hr⟩ := kind_empty (prog := prog) (w := w) (A := A) (s := s) e ht he
  refine ⟨fun v hv => ?_, kd, ?_, fun _ E Q hq => hr E hq⟩
  · obtain ⟨d, hd, as, r⟩ := e.left v hv
    exact ⟨_, dataKind_some hal hd r⟩
  · intro E x y a b Q ha hb hq
    obtain ⟨d, as, hd, ra, rfl⟩ := dataKind_inv ha
    obtain ⟨d', as', hd', rb, rfl⟩ := dataKind_inv hb
    have hdd := hal d hd d' hd'
    have hroom : A.units + min d.depth d'.depth < cLine := Nat.lt_of_le_of_lt (Nat.add_le_add_left (Nat.min_le_left _ _) _) (hu d hd)
    obtain ⟨xs, rfl⟩ := ht d hd
    obtain ⟨ys, rfl⟩ := ht d' hd'
    rcases hk with rfl | rfl
    · show wpAny _ _ (oneLt' false _ _) _ _ _
      exact oneLt_tuple ra rb (by simpa [alike] using hdd) hroom hq
    · rw [keyLt'_oneType]
      exact oneLt_tuple ra rb (by simpa [alike] using hdd) hroom hq
end
end Ev

set_option autoImplicit true
set_option Elab.async false
set_option linter.all false
set_option maxRecDepth 100000
set_option maxHeartbeats 4000000
namespace Ev
open PySem L2 PySem.Spec PyProof.Rows
/-! ### sorting by insertion -/
def insD (x : D) : List D → List D
  | [] => [x]
  | y :: ys => if PySem.W.dataLt y x then y :: insD x ys else x :: y :: ys
def isort : List D → List D
  | [] => []
  | x :: xs => insD x (isort xs)
abbrev leD : D → D → Bool := PySem.W.dataLe false (fun d : D => d)
theorem leD_eq (x y : D) : leD x y = !PySem.W.dataLt y x := rfl
theorem leD_total : PySem.W.TotalLe leD := PySem.W.sortLe_total (listOrd itemOrd) false fun b => PySem.W.keyToks b
theorem insD_mem {x z : D} : ∀ {l : List D}, z ∈ insD x l ↔ z = x ∨ z ∈ l
  | [] => by simp [insD]
  | y :: ys => by
    unfold insD
    split
    · simp only [List.mem_cons, insD_mem (l := ys)]
      constructor
      · rintro (h | h | h) <;> simp [h]
      · rintro (h | h | h) <;> simp [h]
    · simp
theorem insD_sorted {x : D} : ∀ {l : List D}, l.Pairwise (fun a b => leD a b = true) → (insD x l).Pairwise (fun a b => leD a b = true)
  | [], _ => by simp [insD]
  | y :: ys, h => by
    unfold insD
    obtain ⟨h1, h2⟩ := List.pairwise_cons.mp h
    split
    · rename_i c
      refine List.pairwise_cons.mpr ⟨fun z hz => ?_, insD_sorted h2⟩
      rcases insD_mem.mp hz with rfl | hz
      · rcases leD_total.total y z with t | t
        · exact t
        · rw [leD_eq, c] at t; cases t
      · exact h1 z hz
    · rename_i c
      have lxy : leD x y = true := by rw [leD_eq]; simp [c]
      refine List.pairwise_cons.mpr ⟨fun z hz => ?_, h⟩
      rcases List.mem_cons.mp hz with rfl | hz
      · exact lxy
      · exact leD_total.trans _ _ _ lxy (h1 z hz)
theorem isort_sorted : ∀ l : List D, (isort l).Pairwise (fun a b => leD a b = true)
  | [] => List.Pairwise.nil
  | x :: xs => insD_sorted (isort_sorted xs)
theorem insD_filter (c x : D) : ∀ l : List D, (insD x l).filter (PySem.W.sameRank leD c) = (x :: l).filter (PySem.W.sameRank leD c)
  | [] => rfl
  | y :: ys => by
    unfold insD
    split
    · rename_i hc
      have ih := insD_filter c x ys
      -- y stands ahead of x: they aren't of one rank
      by_cases hx : PySem.W.sameRank leD c x = true
      · have hy : PySem.W.sameRank leD c y = false := by
          cases q : PySem.W.sameRank leD c y with
          | false => rfl
          | true =>
            unfold PySem.W.sameRank at q hx
            rw [Bool.and_eq_true] at q hx
            have := leD_total.trans _ _ _ hx.2 q.1
            rw [leD_eq, hc] at this
            cases this
        rw [List.filter_cons, hy, List.filter_cons, hx, List.filter_cons, hy]
        rw [List.filter_cons, hx] at ih
        simpa using ih
      · have hx : PySem.W.sameRank leD c x = false := by simpa using hx
        rw [List.filter_cons, List.filter_cons, hx, List.filter_cons]
        rw [List.filter_cons, hx] at ih
        simp only [Bool.false_eq_true, if_false] at ih ⊢
        rw [ih]
    · rfl
theorem isort_filter (c : D) : ∀ l : List D, (isort l).filter (PySem.W.sameRank leD c) = l.filter (PySem.W.sameRank leD c)
  | [] => rfl
  | x :: xs => by
    show (insD x (isort xs)).filter _ = _
    rw [insD_filter, List.filter_cons, List.filter_cons, isort_filter c xs]
theorem isort_is (l : List D) : isort l = l.mergeSort leD := PySem.W.sort_unique leD_total (isort_sorted l) fun c => isort_filter c l
theorem isort_len (l : List D) : (isort l).length = l.length := by rw [isort_is, List.length_mergeSort]
/-- what may be sorted -/
def isI : D → Bool
  | .int _ => true
  | _ => false
def isTI : D → Bool
  | .tuple ds => ds.all isI
  | _ => false
def pairOk (d e : D) : Bool := PySem.W.alike d e && (match d with | .none => false | _ => true) && decide (d.depth ≤ 60) && noDict d
def sortOk (ds : List D) : Bool := ds.all isI || ds.all isTI || ds.all fun d => ds.all fun e => pairOk d e
theorem isI_int {d : D} (h : isI d = true) : ∃ i, d = .int i := by cases d <;> first | exact ⟨_, rfl⟩ | cases h
theorem isTI_tup {d : D} (h : isTI d = true) : ∃ ds, d = .tuple ds ∧ ds.all isI = true := by cases d <;> first | exact ⟨_, rfl, h⟩ | cases h
theorem alikeAll_I : ∀ {xs ys : List D}, xs.all isI = true → ys.all isI = true → PySem.W.alikeAll xs ys = true
  | [], _, _, _ => by simp [PySem.W.alikeAll]
  | _ :: _, [], _, _ => by simp [PySem.W.alikeAll]
  | x :: xs, y :: ys, h1, h2 => by
    rw [List.all_cons, Bool.and_eq_true] at h1 h2
    obtain ⟨i, rfl⟩ := isI_int h1.1
    obtain ⟨j, rfl⟩ := isI_int h2.1
    rw [PySem.W.alikeAll, alikeAll_I h1.2 h2.2]
    simp [PySem.W.alike]
theorem depthAll_I : ∀ {xs : List D}, xs.all isI = true → PyData.depthAll xs = 0
  | [], _ => by simp [PyData.depthAll]
  | x :: xs, h1 => by
    rw [List.all_cons, Bool.and_eq_true] at h1
    obtain ⟨i, rfl⟩ := isI_int h1.1
    rw [PyData.depthAll, depthAll_I h1.2]
    simp [PyData.depth]
theorem sortOk_all {ds : List D} (h : sortOk ds = true) : PySem.W.AllAlike ds ∧ (∀ d ∈ ds, d ≠ .none) ∧ (∀ d ∈ ds, d.depth ≤ 60) ∧ ∀ d ∈ ds, noDict d = true := by
  unfold sortOk at h
  rw [Bool.or_eq_true, Bool.or_eq_true] at h
  rcases h with (h | h) | h
  · have h := List.all_eq_true.mp h
    have key : ∀ d ∈ ds, ∃ i, d = PyData.int i := fun d hd => isI_int (h d hd)
    refine ⟨fun d hd e he => ?_, fun d hd => ?_, fun d hd => ?_, fun d hd => ?_⟩
    · obtain ⟨i, rfl⟩ := key d hd
      obtain ⟨j, rfl⟩ := key e he
      simp [PySem.W.alike]
    · obtain ⟨i, rfl⟩ := key d hd
      intro z; cases z
    · obtain ⟨i, rfl⟩ := key d hd
      simp [PyData.depth]
    · obtain ⟨i, rfl⟩ := key d hd
      rfl
  · have h := List.all_eq_true.mp h
    have key : ∀ d ∈ ds, ∃ xs, d = PyData.tuple xs ∧ xs.all isI = true := fun d hd => isTI_tup (h d hd)
    refine ⟨fun d hd e he => ?_, fun d hd => ?_, fun d hd => ?_, fun d hd => ?_⟩
    · obtain ⟨i, rfl, h1⟩ := key d hd
      obtain ⟨j, rfl, h2⟩ := key e he
      show PySem.W.alike (.tuple i) (.tuple j) = true
      rw [PySem.W.alike]
      exact alikeAll_I h1 h2
    · obtain ⟨i, rfl, _⟩ := key d hd
      intro z; cases z
    · obtain ⟨i, rfl, h1⟩ := key d hd
      show PyData.depth (.tuple i) ≤ 60
      rw [PyData.depth, depthAll_I h1]
      decide
    · obtain ⟨i, rfl, _⟩ := key d hd
      rfl
  · have h : ∀ d ∈ ds, ∀ e ∈ ds, pairOk d e = true := fun d hd e he => List.all_eq_true.mp (List.all_eq_true.mp h d hd) e he
    have key : ∀ d ∈ ds, ∀ e ∈ ds, PySem.W.alike d e = true ∧ d ≠ .none ∧ d.depth ≤ 60 ∧ noDict d = true := fun d hd e he => by
      have q := h d hd e he
      unfold pairOk at q
      simp only [Bool.and_eq_true, decide_eq_true_eq] at q
      obtain ⟨⟨⟨a, n⟩, dd⟩, e2⟩ := q
      refine ⟨a, ?_, dd, e2⟩
      rintro rfl
      cases n
    exact ⟨fun d hd e he => (key d hd e he).1, fun d hd => (key d hd d hd).2.1, fun d hd => (key d hd d hd).2.2.1, fun d hd => (key d hd d hd).2.2.2⟩
section
variable {prog : Program} {w : World} {A : Around} {E : Value → Shared → Prop} {s : Shared}
/-- a tuple's items gathered, as a list's are -/
theorem gather_tuple {l : Addr} {vs : List Value} {Q : List Value → Shared → Prop} (hl : IsTup s.heap l vs.toArray) (hsz : vs.length ≤ sizeLine)
    (h : Q vs { s with heap := (s.heap.push (seqObj "list" #[] 0)).update s.heap.objs.size (Obj.mapSeq (· ++ vs.toArray)) }) : wpAny (model prog w) A (collect (.ref l)) Q E s := by
  obtain ⟨o, ho, hc, n, hd⟩ := id hl
  have ho2 : (s.heap.push (seqObj "list" #[] 0)).get? l = some o := Heap.get?_push_of_some _ ho
  unfold collect
  refine wpAny_bind (wpAny_runValue (codeAny_builtin entry_proto_collect' ?_))
  show wpAny (model prog w) _ (newList [] >>= fun n => again (.builtin "list.__iadd__" ⟨[n, .ref l], []⟩)) _ _ s
  refine wpAny_bind (wpAny_newList (wpAny_pure ⟨Code.quiet_builtin _ (by decide +kernel), codeAny_builtin entry_list_iadd' ?_⟩))
  show wpAny (model prog w) _ (Builtin.List.listExtendWith (.ref s.heap.objs.size) (.ref l) (.ref s.heap.objs.size)) _ _ { s with heap := s.heap.push (seqObj "list" #[] 0) }
  unfold Builtin.List.listExtendWith
  refine wpAny_bind (wpAny_typeOf (T := "tuple") ⟨o, ho2, hc⟩ ?_)
  have t1 : (Value.type "tuple" == Value.type "tuple") = true := by rfl
  rw [if_pos (by rw [t1]; simp)]
  refine wpAny_bind (listItems_at ho2 hd ?_)
  refine wpAny_bind (listItems_at (n := 0) (xs := #[]) (Heap.get?_push_size _ rfl) rfl ?_)
  rw [if_neg (by simp)]
  have hsz2 : (#[] ++ vs.toArray).size ≤ sizeLine + 1 := by
    simp only [Array.size_append, List.size_toArray, List.length_nil]
    omega
  refine wpAny_bind (listUpdate_at (n := 0) (xs := #[]) (Heap.get?_push_size _ rfl) rfl (wpAny_pure ?_) (Nat.zero_le _) hsz2)
  show wpAny (model prog w) A (load s.heap.objs.size >>= fun o => match o.data with | .seq xs _ => pure xs.toList | _ => unsupported "internal:collect") Q E _
  refine wpAny_bind (wpAny_load (get?_update_seq (Heap.get?_push_size _ rfl) _) ?_)
  have e : ((#[] : Array Value) ++ vs.toArray).toList = vs := by simp
  show wpAny (model prog w) A (pure ((#[] : Array Value) ++ vs.toArray).toList) Q E _
  rw [e]
  exact wpAny_pure h
/-- sorted of a list or a tuple -/
theorem sorted_src {l : Addr} {vs : List Value} {κ : PyProof.Rows.KeyKind} {Q : Value → Shared → Prop} (hl : s.heap.IsList l vs.toArray ∨ IsTup s.heap l vs.toArray)
    (S : PySem.W.SortsAt prog w A.in1.in1 { s with heap := PySem.W.sortingHeap (PySem.W.copyHeap s.heap vs) (s.heap.objs.size + 1) vs } κ vs) (hL : vs.length ≤ sizeLine)
    (h : Q (.ref (s.heap.objs.size + 1)) { s with heap := sortedAll s.heap vs (PySem.W.sortVals κ false vs vs).toArray }) : wpAny (model prog w) A (call (.builtin "sorted") [.ref l]) Q E s := by
  rcases hl with hl | hl
  · exact PySem.W.sorted_vals hl S hL h
  · refine Calls.call_function_entry kind_sorted plain_sorted entry_sorted (args_sorted1 _) ?_
    unfold Builtin.«sorted»
    refine wpAny_bind (m := checkCount "sorted" 1 1 _) (wpAny_pure ?_)
    refine wpAny_bind (gather_tuple hl hL ?_)
    refine wpAny_bind (wpAny_newList ?_ hL)
    have e1 : ((s.heap.push (seqObj "list" #[] 0)).update s.heap.objs.size (Obj.mapSeq (· ++ vs.toArray))).objs.size = s.heap.objs.size + 1 := by rw [Heap.size_update, size_push']
    show wpAny _ _ _ _ _ { s with heap := PySem.W.copyHeap s.heap vs }
    rw [e1]
    refine wpAny_bind (wpAny_holding (wpAny_call_entry slot_list_sort ⟨_, PySem.W.copyHeap_at s.heap vs, rfl⟩ entry_list_sort ?body (args_list_sort _)))
    case body =>
      refine PySem.W.list_sort_vals (s := { s with heap := PySem.W.copyHeap s.heap vs }) (PySem.W.copyHeap_at s.heap vs) S hL ⟨_, rfl, wpAny_pure ⟨_, rfl, h⟩⟩
end
section
variable {X : Cx}
theorem vals_each {R : V → D → Prop} : ∀ {vs : List V} {us : List Value} {ds : List D}, Vals vs us → Paired R vs ds → PySem.W.EachIs (fun u d => ∃ v, RelV v u ∧ R v d) us ds
  | _, _, _, .nil, .nil => .nil
  | _, _, _, .cons r t, .cons h k => .cons ⟨_, r, h⟩ (vals_each t k)
theorem each_vals {R : V → D → Prop} : ∀ {us : List Value} {ds : List D}, PySem.W.EachIs (fun u d => ∃ v, RelV v u ∧ R v d) us ds → ∃ vs, Vals vs us ∧ Paired R vs ds
  | _, _, .nil => ⟨[], .nil, .nil⟩
  | _, _, .cons ⟨v, r, h⟩ t => by
    obtain ⟨vs, h1, h2⟩ := each_vals t
    exact ⟨v :: vs, .cons r h1, .cons h h2⟩
theorem dps_paired {K : PySem.W.Frag} {H : Hp} : ∀ {vs : List V} {ds : List D}, DpAll K H vs ds → Paired (Dp K H) vs ds
  | _, _, .nil => .nil
  | _, _, .cons h t => .cons h (dps_paired t)
theorem paired_dps {K : PySem.W.Frag} {H : Hp} : ∀ {vs : List V} {ds : List D}, Paired (Dp K H) vs ds → DpAll K H vs ds
  | _, _, .nil => .nil
  | _, _, .cons h t => .cons h (paired_dps t)
/-- sorted: what is read, what comes -/
def rSortD (K : PySem.W.Frag) : List V → Hp → VK → Prop := fun xs H Q => ∃ (a : Addr) (vs : List V) (G : Hp) (ds : List D), xs = [.ref a] ∧ (SqL K H a vs ∨ SqT K H a vs) ∧ Sub G H ∧ DpAll K G vs ds ∧ sortOk ds = true ∧
  ∀ p ws, H p = none → DpAll K G ws (isort ds) → Q (.ref p) (upd H p (.lst ws))
theorem cr_sortD (hu : X.A.units + 64 < cLine) : CallR X (.builtin "sorted") (rSortD X.K) := by
  intro pins s σ H xs us Q I r h
  obtain ⟨a, vs, G, ds, rfl, hs, sub, hd, ok, q⟩ := h
  obtain ⟨hal, hn, hdep, _⟩ := sortOk_all ok
  have src : ∃ its : List Value, Vals vs its ∧ (s.heap.IsList a its.toArray ∨ IsTup s.heap a its.toArray) ∧ vs.length ≤ sizeLine := by
    rcases hs with hs | hs
    · obtain ⟨its, rv, hl, hz⟩ := I.list hs
      exact ⟨its, rv, .inl hl.isList, hz⟩
    · obtain ⟨its, rv, hl, hz⟩ := I.tuple hs
      exact ⟨its, rv, .inr hl, hz⟩
  obtain ⟨its, rv, hl, hz⟩ := src
  rw [Vals.ref1 r]
  have hlen : its.length = ds.length := by rw [← rv.length]; exact dps_len hd
  have hzl : its.length ≤ sizeLine := by rw [← rv.length]; exact hz
  have e1 : PySem.W.EachIs (fun u d => ∃ v, RelV v u ∧ Dp X.K G v d) its ds := vals_each rv (dps_paired hd)
  -- the items read as data, here and in the heap in which they are sorted
  have er0 : PySem.W.EachIs (fun u d => ∃ as, Reads s.heap u d as) its ds := e1.mono fun u d ⟨v, r1, h1⟩ => Dp.reads I d v u (dp_mono sub h1) r1
  have er1 : PySem.W.EachIs (fun u d => ∃ as, Reads (PySem.W.sortingHeap (PySem.W.copyHeap s.heap its) (s.heap.objs.size + 1) its) u d as) its ds := er0.mono fun u d ⟨as, r1⟩ => ⟨as, PyProof.Rows.Reads.keeps (fun _ _ => PySem.W.sorting_copy_old) r1⟩
  have S := sortsAt_all (prog := X.prog) (w := X.w) (A := X.A.in1.in1) (s := { s with heap := PySem.W.sortingHeap (PySem.W.copyHeap s.heap its) (s.heap.objs.size + 1) its }) er1 hal hn (fun d hm => by
    have := hdep d hm
    show X.A.units + 1 + 1 + d.depth < cLine
    omega)
  refine sorted_src hl S hzl ?_
  have out := PySem.W.sortVals_each (κ := PySem.W.dataKind (PySem.W.sortingHeap (PySem.W.copyHeap s.heap its) (s.heap.objs.size + 1) its) ds) (rev := false) (fun b => PySem.W.keyToks b) e1 (PySem.W.each_keys hal er1)
  obtain ⟨ws, w1, w2⟩ := each_vals out
  have w2 : Paired (Dp X.K G) ws (ds.mergeSort leD) := w2
  rw [← isort_is] at w2
  have hol : ws.length = ds.length := by rw [dps_len (paired_dps w2), isort_len]
  obtain ⟨ep, hat⟩ := PyProof.Rows.sortedAll_at s.heap its (PySem.W.sortVals (PySem.W.dataKind (PySem.W.sortingHeap (PySem.W.copyHeap s.heap its) (s.heap.objs.size + 1) its) ds) false its its).toArray
  have hwl : ws.length ≤ sizeLine := by rw [hol, ← hlen]; exact hzl
  exact ⟨.ref _, upd H (s.heap.objs.size + 1) (.lst ws), I.laid (t' := s.toks) (fun _ _ => PyProof.Rows.sortedAll_old) (Nat.le_succ _) ⟨hwl, _, ep, w1, hat⟩, rfl, q _ _ (I.hok.fresh (Nat.le_succ _)) (paired_dps w2)⟩
end
end Ev

set_option autoImplicit true
set_option Elab.async false
set_option linter.all false
set_option maxRecDepth 100000
set_option maxHeartbeats 4000000
namespace Ev
open PySem L2 PySem.Spec PyProof.Rows
section
variable {X : Cx}
theorem dvs1 {K : PySem.W.Frag} {G H : Hp} {xs : List V} {d : D} (h : DvAll K G H xs [d]) : ∃ x, xs = [x] ∧ Dv K G H x d := by
  cases h with
  | cons a t => cases t; exact ⟨_, rfl, a⟩
theorem dvs2 {K : PySem.W.Frag} {G H : Hp} {xs : List V} {d e : D} (h : DvAll K G H xs [d, e]) : ∃ x y, xs = [x, y] ∧ Dv K G H x d ∧ Dv K G H y e := by
  cases h with
  | cons a t =>
    cases t with
    | cons b u => cases u; exact ⟨_, _, rfl, a, b⟩
theorem call_rDn1 {f : Value} {g : D → Option RR} {r : List V → Hp → VK → Prop} (h : CallR X f r) (i : ∀ x H Q, rD1 X.K g x H Q → r [x] H Q) : CallR X f (rDn X.K fun | [d] => g d | _ => none) := call_imp h fun xs H Q ⟨G, ds, rr, s, dv, gg, o⟩ => by
  match ds, gg with
  | [d], gg =>
    obtain ⟨x, rfl, dx⟩ := dvs1 dv
    exact i x H Q ⟨G, d, rr, s, dx, gg, o⟩
abbrev on1 (g : D → Option RR) : List D → Option RR := fun | [d] => g d | _ => none
abbrev on2 (g : D → D → Option RR) : List D → Option RR := fun | [d, e] => g d e | _ => none
theorem call_rDn2 {f : Value} {g : D → D → Option RR} {r : List V → Hp → VK → Prop} (h : CallR X f r) (i : ∀ x y H Q, rD2 X.K g x y H Q → r [x, y] H Q) : CallR X f (rDn X.K (on2 g)) := call_imp h fun xs H Q ⟨G, ds, rr, s, dv, gg, o⟩ => by
  match ds, gg with
  | [d, e], gg =>
    obtain ⟨x, y, rfl, dx, dy⟩ := dvs2 dv
    exact i x y H Q ⟨G, d, e, rr, s, dx, dy, gg, o⟩
def dLen : D → Option RR
  | .list ds => some (.sol (.int ds.length))
  | .tuple ds => some (.sol (.int ds.length))
  | _ => none
theorem cr_lenD : CallR X (.builtin "len") (rDn X.K (on1 dLen)) := call_rDn1 call_len_seq fun x H Q ⟨G, d, rr, s, dx, g, o⟩ => by
  unfold dLen at g
  split at g
  · cases g
    obtain ⟨a, vs, rfl, h1, h2⟩ := dx
    refine ⟨a, vs, rfl, .inl h1, ?_⟩
    rw [dps_len h2]
    exact out_sol s o (.int _)
  · cases g
    obtain ⟨a, vs, rfl, h1, h2⟩ := dvTup dx
    refine ⟨a, vs, rfl, .inr (sqT_mono s h1), ?_⟩
    rw [dps_len h2]
    exact out_sol s o (.int _)
  · cases g
def dAbs : D → Option RR
  | .int i => some (.sol (.int (if i < 0 then -i else i)))
  | _ => none
theorem cr_absD : CallR X (.builtin "abs") (rDn X.K (on1 dAbs)) := call_rDn1 call_abs fun x H Q ⟨G, d, rr, s, dx, g, o⟩ => by
  unfold dAbs at g
  split at g
  · cases g
    rw [dvInt dx]
    exact ⟨_, rfl, out_sol s o (.int _)⟩
  · cases g
def dInt : D → Option RR
  | .int i => some (.sol (.int i))
  | .bool b => some (.sol (.int (if b then 1 else 0)))
  | _ => none
theorem cr_intD : CallR X (.type "int") (rDn X.K (on1 dInt)) := call_rDn1 call_int1 fun x H Q ⟨G, d, rr, s, dx, g, o⟩ => by
  unfold dInt at g
  split at g
  · cases g
    rw [dvInt dx]
    exact .inl ⟨_, rfl, out_sol s o (.int _)⟩
  · cases g
    rw [dvBl dx]
    exact .inr ⟨_, rfl, out_sol s o (.int _)⟩
  · cases g
def dMax2 : D → D → Option RR
  | .int i, .int j => some (.sol (.int (if j > i then j else i)))
  | _, _ => none
theorem cr_max2D (hc : X.calm = true) : CallR X (.builtin "max") (rDn X.K (on2 dMax2)) := call_rDn2 (call_max2 hc) fun x y H Q ⟨G, d, e, rr, s, dx, dy, g, o⟩ => by
  unfold dMax2 at g
  split at g
  · cases g
    rw [dvInt dx, dvInt dy]
    exact ⟨_, _, rfl, out_sol s o (.int _)⟩
  · cases g
def dMin2 : D → D → Option RR
  | .int i, .int j => some (.sol (.int (if j < i then j else i)))
  | _, _ => none
theorem cr_min2D (hc : X.calm = true) : CallR X (.builtin "min") (rDn X.K (on2 dMin2)) := call_rDn2 (call_min2 hc) fun x y H Q ⟨G, d, e, rr, s, dx, dy, g, o⟩ => by
  unfold dMin2 at g
  split at g
  · cases g
    rw [dvInt dx, dvInt dy]
    exact ⟨_, _, rfl, out_sol s o (.int _)⟩
  · cases g
def dList : D → Option RR
  | .list ds => some (.lst ds)
  | .tuple ds => some (.lst ds)
  | _ => none
theorem cr_listD : CallR X (.type "list") (rDn X.K (on1 dList)) := call_rDn1 call_list_of fun x H Q ⟨G, d, rr, s, dx, g, o⟩ => by
  unfold dList at g
  split at g
  · cases g
    obtain ⟨a, vs, rfl, h1, h2⟩ := dx
    exact ⟨a, vs, rfl, .inl h1, fun l n => out_lst s o n h2⟩
  · cases g
    obtain ⟨a, vs, rfl, h1, h2⟩ := dvTup dx
    exact ⟨a, vs, rfl, .inr (sqT_mono s h1), fun l n => out_lst s o n h2⟩
  · cases g
def dTuple : D → Option RR
  | .list ds => some (.sol (.tuple ds))
  | .tuple ds => some (.sol (.tuple ds))
  | _ => none
theorem cr_tupleD : CallR X (.type "tuple") (rDn X.K (on1 dTuple)) := call_rDn1 call_tuple_of fun x H Q ⟨G, d, rr, s, dx, g, o⟩ => by
  unfold dTuple at g
  split at g
  · cases g
    obtain ⟨a, vs, rfl, h1, h2⟩ := dx
    exact ⟨a, vs, rfl, .inl ⟨h1, fun l n => out_tup s o n h2⟩⟩
  · cases g
    obtain ⟨a, vs, rfl, h1, h2⟩ := dvTup dx
    exact ⟨a, vs, rfl, .inr ⟨sqT_mono s h1, out_sol s o (.tup h1 h2)⟩⟩
  · cases g
/-- the ints, the truth values of data -/
def intsD : List D → Option (List Int)
  | [] => some []
  | .int i :: ds => (intsD ds).map (i :: ·)
  | _ => none
def boolsD : List D → Option (List Bool)
  | [] => some []
  | .bool i :: ds => (boolsD ds).map (i :: ·)
  | _ => none
theorem intsD_is : ∀ {ds : List D} {ns : List Int}, intsD ds = some ns → ds = ns.map PyData.int
  | [], _, h => by cases h; rfl
  | d :: ds, ns, h => by
    cases d with
    | int i =>
      simp only [intsD] at h
      cases q : intsD ds with
      | none => rw [q] at h; cases h
      | some ms =>
        rw [q] at h
        cases h
        rw [intsD_is q]
        rfl
    | none | bool | str | list | tuple | dict => cases h
theorem boolsD_is : ∀ {ds : List D} {ns : List Bool}, boolsD ds = some ns → ds = ns.map PyData.bool
  | [], _, h => by cases h; rfl
  | d :: ds, ns, h => by
    cases d with
    | bool i =>
      simp only [boolsD] at h
      cases q : boolsD ds with
      | none => rw [q] at h; cases h
      | some ms =>
        rw [q] at h
        cases h
        rw [boolsD_is q]
        rfl
    | none | int | str | list | tuple | dict => cases h
def dSum : D → Option RR
  | .list ds => (intsD ds).map fun ns => .sol (.int ns.sum)
  | _ => none
theorem cr_sumD (hc : X.calm = true) : CallR X (.builtin "sum") (rDn X.K (on1 dSum)) := call_rDn1 (cr_sum hc) fun x H Q ⟨G, d, rr, s, dx, g, o⟩ => by
  unfold dSum at g
  split at g
  · rename_i ds
    cases q : intsD ds with
    | none => rw [q] at g; cases g
    | some ns =>
      rw [q] at g
      cases g
      obtain ⟨a, vs, rfl, h1, h2⟩ := dx
      rw [intsD_is q] at h2
      rw [dps_int_inv h2] at h1
      exact ⟨a, ns, rfl, h1, out_sol s o (.int _)⟩
  · cases g
def dAny : D → Option RR
  | .list ds => (boolsD ds).map fun ns => .sol (.bool (ns.any id))
  | _ => none
def dAll : D → Option RR
  | .list ds => (boolsD ds).map fun ns => .sol (.bool (ns.all id))
  | _ => none
theorem cr_anyD (hc : X.calm = true) : CallR X (.builtin "any") (rDn X.K (on1 dAny)) := call_rDn1 (cr_any hc) fun x H Q ⟨G, d, rr, s, dx, g, o⟩ => by
  unfold dAny at g
  split at g
  · rename_i ds
    cases q : boolsD ds with
    | none => rw [q] at g; cases g
    | some ns =>
      rw [q] at g
      cases g
      obtain ⟨a, vs, rfl, h1, h2⟩ := dx
      rw [boolsD_is q] at h2
      rw [dps_bl_inv h2] at h1
      exact ⟨a, ns, rfl, h1, out_sol s o (.bl _)⟩
  · cases g
theorem cr_allD (hc : X.calm = true) : CallR X (.builtin "all") (rDn X.K (on1 dAll)) := call_rDn1 (cr_all hc) fun x H Q ⟨G, d, rr, s, dx, g, o⟩ => by
  unfold dAll at g
  split at g
  · rename_i ds
    cases q : boolsD ds with
    | none => rw [q] at g; cases g
    | some ns =>
      rw [q] at g
      cases g
      obtain ⟨a, vs, rfl, h1, h2⟩ := dx
      rw [boolsD_is q] at h2
      rw [dps_bl_inv h2] at h1
      exact ⟨a, ns, rfl, h1, out_sol s o (.bl _)⟩
  · cases g
def dSorted : D → Option RR
  | .list ds => if sortOk ds = true then some (.lst (isort ds)) else none
  | .tuple ds => if sortOk ds = true then some (.lst (isort ds)) else none
  | _ => none
theorem cr_sortedD (hu : X.A.units + 64 < cLine) : CallR X (.builtin "sorted") (rDn X.K (on1 dSorted)) := call_rDn1 (cr_sortD hu) fun x H Q ⟨G, d, rr, s, dx, g, o⟩ => by
  unfold dSorted at g
  split at g
  · split at g
    · rename_i ok
      cases g
      obtain ⟨a, vs, rfl, h1, h2⟩ := dx
      exact ⟨a, vs, G, _, rfl, .inl h1, s, h2, ok, fun p ws n k => out_lst s o n k⟩
    · cases g
  · split at g
    · rename_i ok
      cases g
      obtain ⟨a, vs, rfl, h1, h2⟩ := dvTup dx
      exact ⟨a, vs, G, _, rfl, .inr (sqT_mono s h1), s, h2, ok, fun p ws n k => out_lst s o n k⟩
    · cases g
  · cases g
/-! ### isinstance -/
def tyD : D → String
  | .none => "NoneType"
  | .bool _ => "bool"
  | .int _ => "int"
  | .str _ => "str"
  | .list _ => "list"
  | .tuple _ => "tuple"
  | .dict _ => "dict"
theorem tyX_of {K : PySem.W.Frag} {G H : Hp} (s : Sub G H) {x : V} {d : D} (h : Dv K G H x d) (n : noDict d = true) : TyX K H x (.type (tyD d)) := by
  cases d with
  | none => cases h; exact .base .non
  | bool => cases h; exact .base (.bl _)
  | int => cases h; exact .base (.int _)
  | str => cases h; exact .base (.str _)
  | list ds =>
    obtain ⟨a, vs, rfl, h1, h2⟩ := h
    rcases h1 with (h1 | ⟨o, h1⟩) | ⟨o, its, n, h1, h2, _⟩
    · exact .base (.lst h1)
    · exact .base (.frz h1)
    · exact .kList h1 h2
  | tuple ds =>
    obtain ⟨a, vs, rfl, h1, h2⟩ := dvTup h
    rcases sqT_mono s h1 with (h1 | ⟨o, h1⟩) | ⟨o, its, n, h1, h2, _⟩
    · exact .base (.tup h1)
    · exact .fTuple h1
    · exact .kTuple h1 h2
  | dict => cases n
def isiB (d : D) (t : String) : Option Bool := kitB (tyD d) t
def dIsi (t : String) (d : D) : Option RR := if noDict d = true then (kitB (tyD d) t).map fun b => .sol (.bool b) else none
/-- isinstance(x, T): T the value of a built-in class -/
def rIsi1 (K : PySem.W.Frag) (t : String) : List V → Hp → VK → Prop := fun xs H Q => ∃ x, xs = [x, .ty t] ∧ rD1 K (dIsi t) x H Q
theorem cr_isi1 {t : String} : CallR X (.builtin "isinstance") (rIsi1 X.K t) := call_imp call_isi fun xs H Q ⟨x, e, G, d, rr, s, dx, g, o⟩ => by
  subst e
  unfold dIsi at g
  split at g
  · rename_i n
    cases q : kitB (tyD d) t with
    | none => rw [q] at g; cases g
    | some b =>
      rw [q] at g
      cases g
      exact ⟨x, .ty t, .type (tyD d), .type t, b, rfl, .ty t, tyX_of s dx n, kit_ty q, out_sol s o (.bl _)⟩
  · cases g
def kitBs (a : String) : List String → Option Bool
  | [] => some false
  | t :: ts => match kitB a t with
    | some true => some true
    | some false => kitBs a ts
    | none => none
theorem kitBs_is {K : PySem.W.Frag} {a : String} : ∀ {ts : List String} {b : Bool}, kitBs a ts = some b → PySem.W.kitAny K (.type a) (ts.map Value.type) = some b
  | [], b, h => by cases h; exact kitAny_nil
  | t :: ts, b, h => by
    unfold kitBs at h
    cases q : kitB a t with
    | none => rw [q] at h; cases h
    | some c =>
      rw [q] at h
      cases c with
      | true => cases h; exact kitAny_cons (kit_ty q) (fun z => nomatch z) fun _ => rfl
      | false => exact kitAny_cons (kit_ty q) (fun _ => kitBs_is h) fun z => nomatch z
def dIsis (ts : List String) (d : D) : Option RR := if noDict d = true then (kitBs (tyD d) ts).map fun b => .sol (.bool b) else none
def rIsis (K : PySem.W.Frag) (ts : List String) : List V → Hp → VK → Prop := fun xs H Q => ∃ x p, xs = [x, .ref p] ∧ H p = some (.tup (ts.map V.ty)) ∧ rD1 K (dIsis ts) x H Q
theorem clsV_tys : ∀ ts : List String, Paired ClsV (ts.map V.ty) (ts.map Value.type)
  | [] => .nil
  | t :: ts => .cons (.ty t) (clsV_tys ts)
theorem cr_isis {ts : List String} : CallR X (.builtin "isinstance") (rIsis X.K ts) := call_imp call_isiT fun xs H Q ⟨x, p, e, hp, G, d, rr, s, dx, g, o⟩ => by
  subst e
  unfold dIsis at g
  split at g
  · rename_i n
    cases q : kitBs (tyD d) ts with
    | none => rw [q] at g; cases g
    | some b =>
      rw [q] at g
      cases g
      exact ⟨x, p, _, .type (tyD d), _, b, rfl, hp, clsV_tys ts, tyX_of s dx n, kitBs_is q, out_sol s o (.bl _)⟩
  · cases g
/-! ### items, cuts -/
def dIx : D → D → Option RR
  | .list ds, .int i => (atI ds i).map .sol
  | .tuple ds, .int i => (atI ds i).map .sol
  | _, _ => none
theorem dps_atI {K : PySem.W.Frag} {H : Hp} {vs : List V} {ds : List D} {i : Int} {d : D} (h : DpAll K H vs ds) (e : atI ds i = some d) : ∃ v, atI vs i = some v ∧ Dp K H v d := by
  unfold atI at e ⊢
  rw [dps_len h]
  cases q : ixN ds.length i with
  | none => rw [q] at e; cases e
  | some j =>
    rw [q] at e
    exact dps_at h e
theorem ix_imp {r r' : R2} (h : IxR X r) (i : ∀ x y H Q, r' x y H Q → r x y H Q) : IxR X r' := fun ve se pins s σ H x y v u Q I rx ry w z => h ve se pins s σ H x y v u Q I rx ry (i _ _ _ _ w) z
theorem ix_D : IxR X (rD2 X.K dIx) := ix_imp (ix_list.or ix_tup) fun x y H Q ⟨G, d, e, rr, s, dx, dy, g, o⟩ => by
  unfold dIx at g
  split at g
  · rename_i ds i
    cases q : atI ds i with
    | none => rw [q] at g; cases g
    | some z =>
      rw [q] at g
      cases g
      obtain ⟨a, vs, rfl, h1, h2⟩ := dx
      obtain ⟨v, k1, k2⟩ := dps_atI h2 q
      exact .inl ⟨a, vs, i, v, rfl, dvInt dy, h1, k1, out_sol s o k2⟩
  · rename_i ds i
    cases q : atI ds i with
    | none => rw [q] at g; cases g
    | some z =>
      rw [q] at g
      cases g
      obtain ⟨a, vs, rfl, h1, h2⟩ := dvTup dx
      obtain ⟨v, k1, k2⟩ := dps_atI h2 q
      exact .inr ⟨a, vs, i, v, rfl, dvInt dy, sqT_mono s h1, k1, out_sol s o k2⟩
  · cases g
def cutD {α : Type} (xs : List α) (lo hi : Option Int) : List α := (xs.drop (HT.sIx xs.length 0 lo)).take (HT.sIx xs.length xs.length hi - HT.sIx xs.length 0 lo)
def dCut (lo hi : Option Int) : D → Option RR
  | .list ds => some (.lst (cutD ds lo hi))
  | .tuple ds => some (.sol (.tuple (cutD ds lo hi)))
  | _ => none
def rCutD (K : PySem.W.Frag) : V → Option Int → Option Int → Hp → VK → Prop := fun x lo hi H Q => rD1 K (dCut lo hi) x H Q
theorem dps_cut {K : PySem.W.Frag} {H : Hp} {vs : List V} {ds : List D} (lo hi : Option Int) (h : DpAll K H vs ds) : DpAll K H (cutV vs lo hi) (cutD ds lo hi) := by
  unfold cutV cutD
  rw [dps_len h]
  exact dps_take _ (dps_drop _ h)
theorem sl_imp {r r' : V → Option Int → Option Int → Hp → VK → Prop} (h : SlR X r) (i : ∀ x lo hi H Q, r' x lo hi H Q → r x lo hi H Q) : SlR X r' := fun pins s σ H x v vl vu lo hi sl Q I rx hs pl pu w => h pins s σ H x v vl vu lo hi sl Q I rx hs pl pu (i _ _ _ _ _ w)
theorem sl_D : SlR X (rCutD X.K) := sl_imp (sl_list.or sl_tupA) fun x lo hi H Q ⟨G, d, rr, s, dx, g, o⟩ => by
  unfold dCut at g
  split at g
  · cases g
    obtain ⟨a, vs, rfl, h1, h2⟩ := dx
    exact .inl ⟨a, vs, rfl, h1, fun p n => out_lst s o n (dps_cut lo hi h2)⟩
  · rename_i ds
    cases g
    obtain ⟨a, vs, rfl, h1, h2⟩ := dvTup dx
    refine .inr ⟨a, vs, rfl, sqT_mono s h1, fun ⟨e1, e2⟩ => ?_, fun _ p n => out_tup s o n (dps_cut lo hi h2)⟩
    have e : cutD ds lo hi = ds := by
      unfold cutD
      rw [← dps_len h2, e1, e2, List.drop_zero, dps_len h2]
      exact List.take_length
    rw [e] at o
    exact out_sol s o (.tup h1 h2)
  · cases g
end
end Ev

set_option Elab.async false
set_option linter.all false
set_option maxRecDepth 100000
set_option maxHeartbeats 4000000
set_option autoImplicit false
/-! ## the environment: slots that hold data, slots that own a list or a dict -/
namespace Ev
open PySem L2 PySem.Spec PyProof.Rows
inductive Cell where
  | lst (ds : List D) | dic (kvs : List (D × D))
def Cell.d : Cell → D
  | .lst ds => .list ds
  | .dic kvs => .dict kvs
/-- a slot: nothing; data; an object of its own (io: a parameter's; lk: walked just now) -/
inductive Slot where
  | un | val (d : D) | own (io lk : Bool) (c : Cell)
abbrev Rho := List Slot
/-- what an expression gives: data; what a slot holds; a new object -/
inductive RV where
  | val (d : D) | bor (i : Nat) | tmp (c : Cell)
structure Xc where
  cls : Str
  args : List D
inductive Res (α : Type) where
  | ok (a : α) (ρ : Rho) | exc (x : Xc) (ρ : Rho) | bad
abbrev M (α : Type) := Rho → Res α
section
variable {α β : Type}
def Res.sat (r : Res α) (p : α → Rho → Prop) (e : Xc → Rho → Prop) : Prop := match r with
  | .ok a ρ => p a ρ
  | .exc x ρ => e x ρ
  | .bad => False
def ret (a : α) : M α := fun ρ => .ok a ρ
def bnd (f : M α) (k : α → M β) : M β := fun ρ => match f ρ with
  | .ok a ρ' => k a ρ'
  | .exc x ρ' => .exc x ρ'
  | .bad => .bad
def lift (o : Option α) : M α := fun ρ => match o with
  | some a => .ok a ρ
  | none => .bad
theorem sat_bnd {f : M α} {k : α → M β} {ρ : Rho} {p : β → Rho → Prop} {e : Xc → Rho → Prop} (h : (bnd f k ρ).sat p e) : (f ρ).sat (fun a ρ' => (k a ρ').sat p e) e := by
  unfold bnd at h
  cases q : f ρ with
  | ok a ρ' => rw [q] at h; exact h
  | exc x ρ' => rw [q] at h; exact h
  | bad => rw [q] at h; exact h
theorem sat_lift {o : Option α} {k : α → M β} {ρ : Rho} {p : β → Rho → Prop} {e : Xc → Rho → Prop} (h : (bnd (lift o) k ρ).sat p e) : ∃ a, o = some a ∧ (k a ρ).sat p e := by
  cases o with
  | none => exact h.elim
  | some a => exact ⟨a, rfl, h⟩
theorem sat_imp {r : Res α} {p p' : α → Rho → Prop} {e e' : Xc → Rho → Prop} (h : r.sat p e) (hp : ∀ a ρ, p a ρ → p' a ρ) (he : ∀ x ρ, e x ρ → e' x ρ) : r.sat p' e' := by
  cases r with
  | ok a ρ => exact hp a ρ h
  | exc x ρ => exact he x ρ h
  | bad => exact h
end

def OwnAt (σ : L2.St) (ρ : Rho) (i : Nat) (a : Addr) : Prop := σ[i]? = some (some (.ref a)) ∧ ∃ io lk c, ρ[i]? = some (.own io lk c)
def Own (σ : L2.St) (ρ : Rho) (a : Addr) : Prop := ∃ i, OwnAt σ ρ i a
def Mut (σ : L2.St) (ρ : Rho) (a : Addr) : Prop := ∃ (i : Nat) (io : Bool) (c : Cell), σ[i]? = some (some (.ref a)) ∧ ρ[i]? = some (.own io false c)
theorem Mut.own {σ : L2.St} {ρ : Rho} {a : Addr} (h : Mut σ ρ a) : Own σ ρ a := by
  obtain ⟨i, io, c, h1, h2⟩ := h
  exact ⟨i, h1, io, false, c, h2⟩
/-- what is hidden from the data -/
def Hd (Z : Addr → Prop) (σ : L2.St) (ρ : Rho) : Addr → Prop := fun a => Z a ∨ Own σ ρ a
def CellAt (K : PySem.W.Frag) (G H : Hp) (a : Addr) : Cell → Prop
  | .lst ds => ∃ vs, H a = some (.lst vs) ∧ DpAll K G vs ds
  | .dic kvs => DicAt K G H a kvs
def SlotOk (K : PySem.W.Frag) (G H : Hp) (ov : Option V) : Slot → Prop
  | .un => True
  | .val d => ∃ v, ov = some v ∧ Dp K G v d
  | .own _ _ c => ∃ a, ov = some (.ref a) ∧ CellAt K G H a c
structure ERel (K : PySem.W.Frag) (Z : Addr → Prop) (σ : L2.St) (H : Hp) (ρ : Rho) : Prop where
  len : σ.length = ρ.length
  inj : ∀ i j a, OwnAt σ ρ i a → OwnAt σ ρ j a → i = j
  slot : ∀ (i : Nat) (sl : Slot), ρ[i]? = some sl → ∃ ov, σ[i]? = some ov ∧ SlotOk K (hid H (Hd Z σ ρ)) H ov sl
  zok : ∀ a, Z a → ∃ o, H a = some o
  zin : ∀ (i : Nat) (a : Addr) (io lk : Bool) (c : Cell), σ[i]? = some (some (.ref a)) → ρ[i]? = some (.own io lk c) → (io = true ↔ Z a)
inductive Evo : Slot → Slot → Prop
  | refl (s : Slot) : Evo s s
  | upd (io : Bool) (c c' : Cell) : Evo (.own io false c) (.own io false c')
  | esc (c : Cell) (d : D) : Evo (.own false false c) (.val d)
theorem Evo.trans {a b c : Slot} (h : Evo a b) (k : Evo b c) : Evo a c := by
  cases h with
  | refl => exact k
  | upd io c0 c1 =>
    cases k with
    | refl => exact .upd ..
    | upd => exact .upd ..
    | esc => exact .esc ..
  | esc c0 d =>
    cases k with
    | refl => exact .esc ..
def Evos (ρ ρ' : Rho) : Prop := ρ.length = ρ'.length ∧ ∀ (i : Nat) (s : Slot), ρ[i]? = some s → ∃ s', ρ'[i]? = some s' ∧ Evo s s'
theorem Evos.refl (ρ : Rho) : Evos ρ ρ := ⟨rfl, fun _ s h => ⟨s, h, .refl s⟩⟩
theorem Evos.trans {a b c : Rho} (h : Evos a b) (k : Evos b c) : Evos a c := ⟨h.1.trans k.1, fun i s e => by
  obtain ⟨s1, e1, v1⟩ := h.2 i s e
  obtain ⟨s2, e2, v2⟩ := k.2 i s1 e1
  exact ⟨s2, e2, v1.trans v2⟩⟩
theorem Evos.back {ρ ρ' : Rho} (h : Evos ρ ρ') {i : Nat} {s' : Slot} (e : ρ'[i]? = some s') : ∃ s, ρ[i]? = some s ∧ Evo s s' := by
  have hl : i < ρ.length := by rw [h.1]; exact (List.getElem?_eq_some_iff.mp e).1
  obtain ⟨s2, e2, v⟩ := h.2 i ρ[i] (List.getElem?_eq_getElem hl)
  rw [e] at e2
  cases e2
  exact ⟨_, List.getElem?_eq_getElem hl, v⟩
theorem Evos.own {σ : L2.St} {ρ ρ' : Rho} (h : Evos ρ ρ') {i : Nat} {a : Addr} (o : OwnAt σ ρ' i a) : OwnAt σ ρ i a := by
  obtain ⟨h1, io, lk, c, h2⟩ := o
  obtain ⟨s, e, v⟩ := h.back h2
  refine ⟨h1, ?_⟩
  cases v with
  | refl => exact ⟨_, _, _, e⟩
  | upd => exact ⟨_, _, _, e⟩
theorem Evos.owns {σ : L2.St} {ρ ρ' : Rho} (h : Evos ρ ρ') {a : Addr} (o : Own σ ρ' a) : Own σ ρ a := by
  obtain ⟨i, o⟩ := o
  exact ⟨i, h.own o⟩
theorem Evos.mut {σ : L2.St} {ρ ρ' : Rho} (h : Evos ρ ρ') {a : Addr} (o : Mut σ ρ' a) : Mut σ ρ a := by
  obtain ⟨i, io, c, h1, h2⟩ := o
  obtain ⟨s, e, v⟩ := h.back h2
  cases v with
  | refl => exact ⟨i, io, c, h1, e⟩
  | upd => exact ⟨i, io, _, h1, e⟩
theorem cell_mono {K : PySem.W.Frag} {G G' H H' : Hp} {a : Addr} {c : Cell} (s : Sub G G') (e : ∀ o, H a = some o → H' a = some o) (h : CellAt K G H a c) : CellAt K G' H' a c := by
  cases c with
  | lst ds =>
    obtain ⟨vs, h1, h2⟩ := h
    exact ⟨vs, e _ h1, dps_mono s h2⟩
  | dic kvs =>
    obtain ⟨ks, h1, h2⟩ := h
    exact ⟨ks, e _ h1, Paired.mapP h2 fun p q z => ⟨z.1, dp_mono s z.2⟩⟩
theorem cell_there {K : PySem.W.Frag} {G H : Hp} {a : Addr} {c : Cell} (h : CellAt K G H a c) : ∃ o, H a = some o := by
  cases c with
  | lst ds => obtain ⟨vs, h1, h2⟩ := h; exact ⟨_, h1⟩
  | dic kvs => obtain ⟨ks, h1, h2⟩ := h; exact ⟨_, h1⟩
theorem ERel.there {K : PySem.W.Frag} {Z : Addr → Prop} {σ : L2.St} {H : Hp} {ρ : Rho} (E : ERel K Z σ H ρ) {a : Addr} (h : Hd Z σ ρ a) : ∃ o, H a = some o := by
  rcases h with h | ⟨i, h1, io, lk, c, h2⟩
  · exact E.zok a h
  · obtain ⟨ov, e, b, e2, k⟩ := E.slot i _ h2
    rw [h1] at e
    cases e
    cases e2
    exact cell_there k
structure EPost (K : PySem.W.Frag) (Z : Addr → Prop) (σ : L2.St) (H : Hp) (ρ : Rho) (H' : Hp) (ρ' : Rho) : Prop where
  rel : ERel K Z σ H' ρ'
  fr : ∀ b o, H b = some o → ¬ Mut σ ρ b → H' b = some o
  dom : ∀ b o, H b = some o → ∃ o', H' b = some o'
  evo : Evos ρ ρ'
section
variable {K : PySem.W.Frag} {Z : Addr → Prop} {σ : L2.St} {H H' H1 H2 : Hp} {ρ ρ' ρ1 ρ2 : Rho}
theorem EPost.trans (a : EPost K Z σ H ρ H1 ρ1) (b : EPost K Z σ H1 ρ1 H2 ρ2) : EPost K Z σ H ρ H2 ρ2 :=
  ⟨b.rel, fun c o e n => b.fr c o (a.fr c o e n) fun z => n (a.evo.mut z), fun c o e => by
    obtain ⟨o1, e1⟩ := a.dom c o e
    exact b.dom c o1 e1, a.evo.trans b.evo⟩
theorem EPost.refl (E : ERel K Z σ H ρ) : EPost K Z σ H ρ H ρ := ⟨E, fun _ _ e _ => e, fun _ o e => ⟨o, e⟩, .refl _⟩
theorem EPost.fresh (a : EPost K Z σ H ρ H' ρ') {p : Addr} (n : H' p = none) : H p = none := by
  cases q : H p with
  | none => rfl
  | some o =>
    obtain ⟨o', e⟩ := a.dom p o q
    rw [n] at e
    cases e
theorem EPost.sub (a : EPost K Z σ H ρ H' ρ') : Sub (hid H (Hd Z σ ρ)) (hid H' (Hd Z σ ρ')) := hid_mono fun b o e n => ⟨a.fr b o e fun z => n (.inr z.own), fun z => n (z.elim .inl fun z => .inr (a.evo.owns z))⟩
/-- the same environment at a heap that keeps all -/
theorem ERel.same (E : ERel K Z σ H ρ) (s : Same H H') : ERel K Z σ H' ρ := by
  refine ⟨E.len, E.inj, fun i sl e => ?_, fun a z => ?_, E.zin⟩
  · obtain ⟨ov, h1, h2⟩ := E.slot i sl e
    refine ⟨ov, h1, ?_⟩
    have sub : Sub (hid H (Hd Z σ ρ)) (hid H' (Hd Z σ ρ)) := hid_mono fun b o q n => ⟨s b o q, n⟩
    cases sl with
    | un => trivial
    | val d =>
      obtain ⟨v, k1, k2⟩ := h2
      exact ⟨v, k1, dp_mono sub k2⟩
    | own io lk c =>
      obtain ⟨a, k1, k2⟩ := h2
      exact ⟨a, k1, cell_mono sub (fun o q => s a o q) k2⟩
  · obtain ⟨o, e⟩ := E.zok a z
    exact ⟨o, s a o e⟩
theorem EPost.same (E : ERel K Z σ H ρ) (s : Same H H') : EPost K Z σ H ρ H' ρ := ⟨E.same s, fun b o e _ => s b o e, fun b o e => ⟨o, s b o e⟩, .refl _⟩
/-- one more hidden, a new place -/
theorem ERel.hide (E : ERel K Z σ H ρ) (s : Same H H') {p : Addr} (n : H p = none) (t : ∃ o, H' p = some o) : ERel K (fun b => Z b ∨ b = p) σ H' ρ := by
  refine ⟨E.len, E.inj, fun i sl e => ?_, fun a z => ?_, fun i a io lk c e1 e2 => ?_⟩
  · obtain ⟨ov, h1, h2⟩ := E.slot i sl e
    refine ⟨ov, h1, ?_⟩
    have sub : Sub (hid H (Hd Z σ ρ)) (hid H' (Hd (fun b => Z b ∨ b = p) σ ρ)) := hid_mono fun b o q m => ⟨s b o q, fun z => by
      rcases z with (z | z) | z
      · exact m (.inl z)
      · subst z; rw [n] at q; cases q
      · exact m (.inr z)⟩
    cases sl with
    | un => trivial
    | val d =>
      obtain ⟨v, k1, k2⟩ := h2
      exact ⟨v, k1, dp_mono sub k2⟩
    | own io lk c =>
      obtain ⟨a, k1, k2⟩ := h2
      exact ⟨a, k1, cell_mono sub (fun o q => s a o q) k2⟩
  · rcases z with z | rfl
    · obtain ⟨o, e⟩ := E.zok a z
      exact ⟨o, s a o e⟩
    · exact t
  · rw [E.zin i a io lk c e1 e2]
    constructor
    · exact .inl
    · rintro (z | rfl)
      · exact z
      · obtain ⟨o, q⟩ := E.there (.inr ⟨i, e1, io, lk, c, e2⟩)
        rw [n] at q
        cases q
end
/-- what a value is -/
def RVOk (K : PySem.W.Frag) (Z : Addr → Prop) (σ : L2.St) (H0 H : Hp) (ρ : Rho) (v : V) : RV → Prop
  | .val d => Dp K (hid H (Hd Z σ ρ)) v d
  | .bor i => σ[i]? = some (some v) ∧ ∃ s, ρ[i]? = some s ∧ s ≠ .un
  | .tmp c => ∃ a, v = .ref a ∧ H0 a = none ∧ ¬ Z a ∧ ¬ Own σ ρ a ∧ ERel K (fun b => Z b ∨ b = a) σ H ρ ∧ CellAt K (hid H fun b => Hd Z σ ρ b ∨ b = a) H a c
def der (ρ : Rho) : RV → Option D
  | .val d => some d
  | .bor i => match ρ[i]? with
    | some (.val d) => some d
    | some (.own _ _ c) => some c.d
    | _ => none
  | .tmp c => some c.d
def pin : RV → Option RV
  | .tmp (.lst ds) => some (.val (.list ds))
  | .tmp (.dic _) => none
  | r => some r
def isPin : RV → Prop
  | .tmp _ => False
  | _ => True
section
variable {K : PySem.W.Frag} {Z : Addr → Prop} {σ : L2.St} {H H' H0 H1 H2 : Hp} {ρ ρ' ρ1 ρ2 : Rho} {v : V}
theorem dv_cell {G : Hp} {a : Addr} {c : Cell} (h : CellAt K G H a c) : Dv K G H (.ref a) c.d := by
  cases c with
  | lst ds => obtain ⟨vs, h1, h2⟩ := h; exact ⟨a, vs, rfl, SqL.of h1, h2⟩
  | dic kvs => exact ⟨a, rfl, h⟩
theorem der_ok (E : ERel K Z σ H ρ) {rv : RV} {d : D} (h : RVOk K Z σ H0 H ρ v rv) (e : der ρ rv = some d) : Dv K (hid H (Hd Z σ ρ)) H v d := by
  cases rv with
  | val d' => cases e; exact dv_of hid_sub h
  | bor i =>
    obtain ⟨h1, sl, h2, h3⟩ := h
    obtain ⟨ov, k1, k2⟩ := E.slot i sl h2
    rw [h1] at k1
    cases k1
    simp only [der, h2] at e
    cases sl with
    | un => exact absurd rfl h3
    | val d' =>
      cases e
      obtain ⟨w, q1, q2⟩ := k2
      cases q1
      exact dv_of hid_sub q2
    | own io lk c =>
      cases e
      obtain ⟨a, q1, q2⟩ := k2
      cases q1
      exact dv_cell q2
  | tmp c =>
    cases e
    obtain ⟨a, rfl, n, nz, no, E', k⟩ := h
    exact dv_cell (cell_mono (hid_mono fun b o q m => ⟨q, fun z => m (.inl z)⟩) (fun o q => q) k)
theorem pin_ok {rv rv' : RV} (h : RVOk K Z σ H0 H ρ v rv) (e : pin rv = some rv') : RVOk K Z σ H0 H ρ v rv' ∧ isPin rv' := by
  cases rv with
  | val d => cases e; exact ⟨h, trivial⟩
  | bor i => cases e; exact ⟨h, trivial⟩
  | tmp c =>
    cases c with
    | lst ds =>
      cases e
      obtain ⟨a, rfl, n, nz, no, E', vs, k1, k2⟩ := h
      refine ⟨?_, trivial⟩
      refine .lst (SqL.of (hid_iff.mpr ⟨k1, fun z => z.elim nz no⟩)) (dps_mono (hid_mono fun b o q m => ⟨q, fun z => m (.inl z)⟩) k2)
    | dic kvs => cases e
theorem pin_keep {rv : RV} (p : isPin rv) (h : RVOk K Z σ H0 H1 ρ1 v rv) (P : EPost K Z σ H1 ρ1 H2 ρ2) (H0' : Hp) : RVOk K Z σ H0' H2 ρ2 v rv := by
  cases rv with
  | val d => exact dp_mono P.sub h
  | bor i =>
    obtain ⟨h1, sl, h2, h3⟩ := h
    obtain ⟨s', e, v⟩ := P.evo.2 i sl h2
    refine ⟨h1, s', e, ?_⟩
    cases v with
    | refl => exact h3
    | upd => intro z; cases z
    | esc => intro z; cases z
  | tmp c => exact p.elim
def outRV : RR → RV
  | .sol d => .val d
  | .lst ds => .tmp (.lst ds)
theorem out_rv (E : ERel K Z σ H ρ) {rr : RR} {Q : VK} (k : ∀ v H', EPost K Z σ H ρ H' ρ → RVOk K Z σ H H' ρ v (outRV rr) → Q v H') : Out K (hid H (Hd Z σ ρ)) H rr Q := by
  have key : ∀ {H' : Hp}, Same H H' → Sub (Hx (hid H (Hd Z σ ρ)) H H') (hid H' (Hd Z σ ρ)) := fun {H'} s a o e => by
    unfold Hx at e
    split at e
    · rename_i n
      refine hid_iff.mpr ⟨e, fun z => ?_⟩
      obtain ⟨o', q⟩ := E.there z
      rw [n] at q
      cases q
    · obtain ⟨e1, e2⟩ := hid_iff.mp e
      exact hid_iff.mpr ⟨s a o e1, e2⟩
  cases rr with
  | sol d => exact fun v H' s h => k v H' (.same E s) (dp_mono (key s) h)
  | lst ds =>
    intro p vs H' s n e h
    have nz : ¬ Hd Z σ ρ p := fun z => by
      obtain ⟨o', q⟩ := E.there z
      rw [n] at q
      cases q
    refine k (.ref p) H' (.same E s) ⟨p, rfl, n, fun z => nz (.inl z), fun z => nz (.inr z), E.hide s n ⟨_, e⟩, vs, e, dps_mono (fun a o q => ?_) h⟩
    obtain ⟨q1, q2⟩ := hid_iff.mp q
    obtain ⟨q3, q4⟩ := hid_iff.mp (key s a o q1)
    exact hid_iff.mpr ⟨q3, fun z => z.elim q4 q2⟩
end
/-! ### the reading of a mirror -/
def XcOk (mg : Str → Option Value) (x : Xc) (cls : Value) (d : Option Addr) (H : Hp) : Prop := mg x.cls = some cls ∧ x.args = [] ∧ d = none
abbrev Pst (α β : Type) := (Addr → Prop) → L2.St → Hp → Hp → Rho → β → α → Prop
def rdG {α β : Type} (K : PySem.W.Frag) (mg : Str → Option Value) (W : WX) (T : Pst α β) (f : M α) (σ : L2.St) (H : Hp) (Q : β → Hp → Prop) : Prop :=
  ∃ Z ρ, ERel K Z σ H ρ ∧ (f ρ).sat (fun a ρ' => ∀ b H', EPost K Z σ H ρ H' ρ' → T Z σ H H' ρ' b a → Q b H') fun x ρ' => ∀ cls d H', EPost K Z σ H ρ H' ρ' → XcOk mg x cls d H' → W cls d σ H'
theorem rd_of {α β : Type} {K : PySem.W.Frag} {mg : Str → Option Value} {W : WX} {T : Pst α β} {f : M α} {Z : Addr → Prop} {ρ : Rho} {σ : L2.St} {H : Hp} {R : β → Hp → Prop} {p : α → Rho → Prop} {e : Xc → Rho → Prop} (E : ERel K Z σ H ρ) (S : (f ρ).sat p e)
    (hp : ∀ a ρ1 b H1, EPost K Z σ H ρ H1 ρ1 → T Z σ H H1 ρ1 b a → p a ρ1 → R b H1) (he : ∀ x ρ1 cls d H1, EPost K Z σ H ρ H1 ρ1 → XcOk mg x cls d H1 → e x ρ1 → W cls d σ H1) : rdG K mg W T f σ H R :=
  ⟨Z, ρ, E, sat_imp S (fun a ρ1 s b H1 P t => hp a ρ1 b H1 P t s) fun x ρ1 s cls d H1 P t => he x ρ1 cls d H1 P t s⟩
abbrev tV (K : PySem.W.Frag) : Pst RV V := fun Z σ H H' ρ' v rv => RVOk K Z σ H H' ρ' v rv
abbrev tBo : Pst Bool Bool := fun _ _ _ _ _ b a => b = a
abbrev rd (K : PySem.W.Frag) (mg : Str → Option Value) (W : WX) (f : M RV) : TE := rdG K mg W (tV K) f
abbrev rdT (K : PySem.W.Frag) (mg : Str → Option Value) (W : WX) (f : M Bool) : TT := rdG K mg W tBo f
/-- expression e is the mirror f -/
abbrev EV (X : Cx) (W : WX) (e : Expr) (f : M RV) : Prop := PE X e (rd X.K X.mg W f)
abbrev ET (X : Cx) (W : WX) (e : Expr) (f : M Bool) : Prop := PT X e (rdT X.K X.mg W f)
section
variable {X : Cx} {W : WX}
theorem pe_imp {e : Expr} {t t' : TE} (h : PE X e t) (i : ∀ σ H Q, t' σ H Q → t σ H Q) : PE X e t' := ⟨fun pins s σ H Q I w => h.run pins s σ H Q I (i σ H Q w)⟩
theorem pt_imp {e : Expr} {t t' : TT} (h : PT X e t) (i : ∀ σ H Q, t' σ H Q → t σ H Q) : PT X e t' := ⟨fun pins s σ H Q I w => h.run pins s σ H Q I (i σ H Q w)⟩
/-- constants -/
def eK (d : D) : M RV := ret (.val d)
theorem ev_K {e : Expr} {v : V} {d : D} (h : PE X e (tC v)) (k : ∀ G : Hp, Dp X.K G v d) : EV X W e (eK d) := pe_imp h fun σ H Q ⟨Z, ρ, E, S⟩ => S v H (.refl E) (k _)
theorem ev_int {i j pos} : EV X W (.Constant (.int i) j pos) (eK (.int i)) := ev_K pe_int fun _ => .int i
theorem ev_bl {b j pos} : EV X W (.Constant (.bool b) j pos) (eK (.bool b)) := ev_K pe_bl fun _ => .bl b
theorem ev_non {j pos} : EV X W (.Constant .none j pos) (eK .none) := ev_K pe_non fun _ => .non
theorem ev_str {x j pos} : EV X W (.Constant (.str x) j pos) (eK (.str x)) := ev_K pe_str fun _ => .str x
/-- names -/
def eVar (i : Nat) : M RV := fun ρ => match ρ[i]? with
  | some (.val d) => .ok (.val d) ρ
  | some (.own _ _ _) => .ok (.bor i) ρ
  | _ => .bad
theorem ev_var {e : Expr} {i : Nat} (h : PE X e (tVar i)) : EV X W e (eVar i) := pe_imp h fun σ H Q ⟨Z, ρ, E, S⟩ => by
  unfold eVar at S
  cases q : ρ[i]? with
  | none => rw [q] at S; exact S.elim
  | some sl =>
    rw [q] at S
    obtain ⟨ov, k1, k2⟩ := E.slot i sl q
    cases sl with
    | un => exact S.elim
    | val d =>
      obtain ⟨v, rfl, h2⟩ := k2
      exact ⟨v, k1, S v H (.refl E) h2⟩
    | own io lk c =>
      obtain ⟨a, rfl, h2⟩ := k2
      exact ⟨.ref a, k1, S _ H (.refl E) ⟨k1, _, q, fun z => nomatch z⟩⟩
/-- an operator of two -/
def eOp2 (g : D → D → Option RR) (f h : M RV) : M RV := bnd f fun a => bnd (lift (pin a)) fun a => bnd h fun b => fun ρ => match der ρ a, der ρ b with
  | some x, some y => (match g x y with
    | some rr => .ok (outRV rr) ρ
    | none => .bad)
  | _, _ => .bad
theorem rd_op2 {r : R2} {g : D → D → Option RR} {f h : M RV} {σ : L2.St} {H : Hp} {Q : VK} (hr : ∀ x y H Q, rD2 X.K g x y H Q → r x y H Q) (w : rd X.K X.mg W (eOp2 g f h) σ H Q) : tOp r (rd X.K X.mg W f) (rd X.K X.mg W h) σ H Q := by
  obtain ⟨Z, ρ, E, S⟩ := w
  refine rd_of E (sat_bnd S) (fun a ρ1 v1 H1 P1 R1 S1 => ?_) fun x ρ1 cls d H1 P1 X1 e1 => e1 cls d H1 P1 X1
  obtain ⟨a', ea, S1⟩ := sat_lift S1
  obtain ⟨R1, pn⟩ := pin_ok R1 ea
  refine rd_of P1.rel (sat_bnd S1) (fun b ρ2 v2 H2 P2 R2 S2 => hr _ _ _ _ ?_) fun x ρ1 cls d H2 P2 X1 e1 => e1 cls d H2 (P1.trans P2) X1
  have R1 := pin_keep pn R1 P2 H
  cases q1 : der ρ2 a' with
  | none => rw [q1] at S2; exact S2.elim
  | some x =>
    cases q2 : der ρ2 b with
    | none => rw [q1, q2] at S2; exact S2.elim
    | some y =>
      rw [q1, q2] at S2
      cases q3 : g x y with
      | none => simp only [q3] at S2; exact S2.elim
      | some rr =>
        simp only [q3] at S2
        refine ⟨_, x, y, rr, hid_sub, der_ok P2.rel R1 q1, der_ok P2.rel R2 q2, q3, out_rv P2.rel fun v H3 P3 R3 => S2 v H3 ((P1.trans P2).trans P3) ?_⟩
        -- a new list is new from the start on
        cases rr with
        | sol d => exact R3
        | lst ds =>
          obtain ⟨p, e, n, k⟩ := R3
          exact ⟨p, e, (P1.trans P2).fresh n, k⟩
theorem ev_op {op : Operator} {g : D → D → Option RR} {a b : Expr} {f h : M RV} {pos : Pos} (ho : OpR X (binaryOp op) (rD2 X.K g)) (ha : EV X W a f) (hb : EV X W b h) : EV X W (.BinOp a op b pos) (eOp2 g f h) :=
  pe_imp (pe_op ho ha hb) fun σ H Q w => rd_op2 (fun _ _ _ _ z => z) w
theorem ev_cmp {op : CmpOp} {g : D → D → Option RR} {a b : Expr} {f h : M RV} {pos : Pos} (ho : OpR X (compareOp op) (rD2 X.K g)) (hm : behindInMarks op b = false) (ha : EV X W a f) (hb : EV X W b h) : EV X W (.Compare a [op] [b] pos) (eOp2 g f h) :=
  pe_imp (pe_cmpR ho ha hb hm) fun σ H Q w => rd_op2 (fun _ _ _ _ z => z) w
theorem ev_ix {a b : Expr} {f h : M RV} {pos : Pos} (hs : PlainIx b) (ha : EV X W a f) (hb : EV X W b h) : EV X W (.Subscript a b pos) (eOp2 dIx f h) :=
  pe_imp (pe_ix ix_D ha hb hs) fun σ H Q w => rd_op2 (fun _ _ _ _ z => z) w
/-- an operator of one -/
def eOp1 (g : D → Option RR) (f : M RV) : M RV := bnd f fun a => fun ρ => match der ρ a with
  | some x => (match g x with
    | some rr => .ok (outRV rr) ρ
    | none => .bad)
  | none => .bad
theorem rd_op1 {r : V → Hp → VK → Prop} {g : D → Option RR} {f : M RV} {σ : L2.St} {H : Hp} {Q : VK} (hr : ∀ x H Q, rD1 X.K g x H Q → r x H Q) (w : rd X.K X.mg W (eOp1 g f) σ H Q) : rd X.K X.mg W f σ H fun x H1 => r x H1 Q := by
  obtain ⟨Z, ρ, E, S⟩ := w
  refine rd_of E (sat_bnd S) (fun a ρ1 v1 H1 P1 R1 S1 => hr _ _ _ ?_) fun x ρ1 cls d H1 P1 X1 e1 => e1 cls d H1 P1 X1
  cases q1 : der ρ1 a with
  | none => rw [q1] at S1; exact S1.elim
  | some x =>
    rw [q1] at S1
    cases q3 : g x with
    | none => simp only [q3] at S1; exact S1.elim
    | some rr =>
      simp only [q3] at S1
      refine ⟨_, x, rr, hid_sub, der_ok P1.rel R1 q1, q3, out_rv P1.rel fun v H3 P3 R3 => S1 v H3 (P1.trans P3) ?_⟩
      cases rr with
      | sol d => exact R3
      | lst ds =>
        obtain ⟨p, e, n, k⟩ := R3
        exact ⟨p, e, P1.fresh n, k⟩
theorem ev_un {op : UnaryOp} {g : D → Option RR} {a : Expr} {f : M RV} {pos : Pos} (ho : UnR X (unaryOp op) (rD1 X.K g)) (ha : EV X W a f) : EV X W (.UnaryOp op a pos) (eOp1 g f) :=
  pe_imp (pe_un ho ha) fun σ H Q w => rd_op1 (fun _ _ _ z => z) w
end
end Ev

set_option Elab.async false
set_option linter.all false
set_option maxRecDepth 100000
set_option maxHeartbeats 4000000
set_option autoImplicit false
/-! expressions: cuts, tests, arguments, displays, calls of built-ins -/
namespace Ev
open PySem L2 PySem.Spec PyProof.Rows
section
variable {X : Cx} {W : WX}
/-! ### truth -/
def truD : D → Option Bool
  | .none => some false
  | .bool b => some b
  | .int i => some (i != 0)
  | .str y => if y.length ≤ lim then some ((y.length : Int) != 0) else none
  | .list ds => some (!ds.isEmpty)
  | .tuple ds => some (!ds.isEmpty)
  | .dict kvs => some (!kvs.isEmpty)
theorem dps_empty {K : PySem.W.Frag} {H : Hp} {vs : List V} {ds : List D} (h : DpAll K H vs ds) : (!vs.isEmpty) = !ds.isEmpty := by cases h <;> rfl
theorem truV_of {K : PySem.W.Frag} {G H : Hp} (s : Sub G H) {x : V} {d : D} {k : Bool} (h : Dv K G H x d) (e : truD d = some k) : TruV K x H k := by
  cases d with
  | none => cases h; cases e; rfl
  | bool => cases h; cases e; rfl
  | int => cases h; cases e; rfl
  | str y =>
    cases h
    simp only [truD] at e
    split at e
    · rename_i l
      cases e
      exact ⟨lim_line l, rfl⟩
    · cases e
  | list ds =>
    obtain ⟨a, vs, rfl, h1, h2⟩ := h
    cases e
    exact .inl ⟨vs, h1, (dps_empty h2).symm⟩
  | tuple ds =>
    obtain ⟨a, vs, rfl, h1, h2⟩ := dvTup h
    cases e
    exact .inr (.inl ⟨vs, sqT_mono s h1, (dps_empty h2).symm⟩)
  | dict kvs =>
    obtain ⟨a, rfl, ks, h1, h2⟩ := h
    cases e
    refine .inr (.inr ⟨ks, h1, ?_⟩)
    cases h2 <;> rfl
def truR (ρ : Rho) (a : RV) : Option Bool := (der ρ a).bind truD
theorem truR_ok {K : PySem.W.Frag} {Z : Addr → Prop} {σ : L2.St} {H0 H : Hp} {ρ : Rho} {v : V} (E : ERel K Z σ H ρ) {rv : RV} {k : Bool} (h : RVOk K Z σ H0 H ρ v rv) (e : truR ρ rv = some k) : TruV K v H k := by
  unfold truR at e
  cases q : der ρ rv with
  | none => rw [q] at e; cases e
  | some d =>
    rw [q] at e
    exact truV_of hid_sub (der_ok E h q) e
/-- a value as a test -/
def tTr (f : M RV) : M Bool := bnd f fun a ρ => match truR ρ a with
  | some k => .ok k ρ
  | none => .bad
theorem et_truth {e : Expr} {f : M RV} (h : EV X W e f) (he : ∀ whole, isTrue e X.env whole = (do let v ← whole; standAt e.pos; holding [v] (truthy v)) := by intro _; rfl) : ET X W e (tTr f) := pt_imp (pt_truth h he) fun σ H Q ⟨Z, ρ, E, S⟩ => by
  refine rd_of E (sat_bnd S) (fun a ρ1 v1 H1 P1 R1 S1 => ?_) fun x ρ1 cls d H1 P1 X1 e1 => e1 cls d H1 P1 X1
  cases q : truR ρ1 a with
  | none => simp only [q] at S1; exact S1.elim
  | some k =>
    simp only [q] at S1
    exact ⟨k, truR_ok P1.rel R1 q, S1 k H1 P1 rfl⟩
/-- a comparison as a test: a truth value comes -/
def tBool (f : M RV) : M Bool := bnd f fun a ρ => match der ρ a with
  | some (.bool k) => .ok k ρ
  | _ => .bad
theorem rd_tBool {f : M RV} {σ : L2.St} {H : Hp} {Q : Bool → Hp → Prop} (h : rdT X.K X.mg W (tBool f) σ H Q) : rd X.K X.mg W f σ H fun x H' => ∃ k, x = .bl k ∧ Q k H' := by
  obtain ⟨Z, ρ, E, S⟩ := h
  refine rd_of E (sat_bnd S) (fun a ρ1 v1 H1 P1 R1 S1 => ?_) fun x ρ1 cls d H1 P1 X1 e1 => e1 cls d H1 P1 X1
  cases q : der ρ1 a with
  | none => simp only [q] at S1; exact S1.elim
  | some d =>
    simp only [q] at S1
    cases d with
    | bool k =>
      have := der_ok P1.rel R1 q
      exact ⟨k, dvBl this, S1 k H1 P1 rfl⟩
    | none | int | str | list | tuple | dict => exact S1.elim
theorem et_cmp {op : CmpOp} {g : D → D → Option RR} {a b : Expr} {f h : M RV} {pos : Pos} (ho : OpR X (compareOp op) (rD2 X.K g)) (hm : behindInMarks op b = false) (ha : EV X W a f) (hb : EV X W b h) : ET X W (.Compare a [op] [b] pos) (tBool (eOp2 g f h)) :=
  pt_imp (pt_cmpR ho ha hb hm) fun σ H Q w => rd_op2 (X := X) (fun _ _ _ _ z => z) (rd_tBool w)
/-- and, or, not -/
def tAndM (f g : M Bool) : M Bool := bnd f fun b => if b = true then g else ret false
def tOrM (f g : M Bool) : M Bool := bnd f fun b => if b = true then ret true else g
def tNotM (f : M Bool) : M Bool := bnd f fun b => ret (!b)
abbrev EW (X : Cx) (W : WX) (e : Expr) (f : M Bool) : Prop := PW X e (rdT X.K X.mg W f)
theorem pw_imp {e : Expr} {t t' : TT} (h : PW X e t) (i : ∀ σ H Q, t' σ H Q → t σ H Q) : PW X e t' := ⟨fun wh pins s σ H Q I w => h.run wh pins s σ H Q I (i σ H Q w)⟩
theorem ew_and1 {a : Expr} {f : M Bool} {pos : Pos} (ha : ET X W a f) : EW X W (.BoolOp .And [a] pos) f := pw_and1 ha
theorem ew_or1 {a : Expr} {f : M Bool} {pos : Pos} (ha : ET X W a f) : EW X W (.BoolOp .Or [a] pos) f := pw_or1 ha
theorem ew_and {a b : Expr} {rest : List Expr} {f g : M Bool} {pos : Pos} (ha : ET X W a f) (hb : EW X W (.BoolOp .And (b :: rest) pos) g) : EW X W (.BoolOp .And (a :: b :: rest) pos) (tAndM f g) :=
  pw_imp (pw_and ha hb) fun σ H Q ⟨Z, ρ, E, S⟩ => by
    refine rd_of E (sat_bnd S) (fun a ρ1 v1 H1 P1 R1 S1 => ?_) fun x ρ1 cls d H1 P1 X1 e1 => e1 cls d H1 P1 X1
    obtain rfl : v1 = a := R1
    cases v1 with
    | true =>
      rw [if_pos rfl] at S1 ⊢
      exact rd_of P1.rel S1 (fun a ρ2 v2 H2 P2 R2 S2 => S2 v2 H2 (P1.trans P2) R2) fun x ρ2 cls d H2 P2 X2 e2 => e2 cls d H2 (P1.trans P2) X2
    | false => exact S1 false H1 P1 rfl
theorem ew_or {a b : Expr} {rest : List Expr} {f g : M Bool} {pos : Pos} (ha : ET X W a f) (hb : EW X W (.BoolOp .Or (b :: rest) pos) g) : EW X W (.BoolOp .Or (a :: b :: rest) pos) (tOrM f g) :=
  pw_imp (pw_or ha hb) fun σ H Q ⟨Z, ρ, E, S⟩ => by
    refine rd_of E (sat_bnd S) (fun a ρ1 v1 H1 P1 R1 S1 => ?_) fun x ρ1 cls d H1 P1 X1 e1 => e1 cls d H1 P1 X1
    obtain rfl : v1 = a := R1
    cases v1 with
    | false => exact rd_of P1.rel S1 (fun a ρ2 v2 H2 P2 R2 S2 => S2 v2 H2 (P1.trans P2) R2) fun x ρ2 cls d H2 P2 X2 e2 => e2 cls d H2 (P1.trans P2) X2
    | true => exact S1 true H1 P1 rfl
theorem et_not {a : Expr} {f : M Bool} {pos : Pos} (ha : ET X W a f) : ET X W (.UnaryOp .Not a pos) (tNotM f) :=
  pt_imp (pt_not ha) fun σ H Q ⟨Z, ρ, E, S⟩ => by
    refine rd_of E (sat_bnd S) (fun a ρ1 v1 H1 P1 R1 S1 => ?_) fun x ρ1 cls d H1 P1 X1 e1 => e1 cls d H1 P1 X1
    obtain rfl : v1 = a := R1
    exact S1 (!v1) H1 P1 rfl
/-- .. as values -/
def eNot (f : M RV) : M RV := bnd (tBool f) fun k => ret (.val (.bool (!k)))
theorem ev_not {a : Expr} {f : M RV} {pos : Pos} (ha : EV X W a f) : EV X W (.UnaryOp .Not a pos) (eNot f) :=
  pe_imp (pe_not ha) fun σ H Q ⟨Z, ρ, E, S⟩ => by
    refine rd_tBool (X := X) (Q := fun k H' => Q (.bl (!k)) H') (rd_of E (sat_bnd S) (fun a ρ1 v1 H1 P1 R1 S1 => ?_) fun x ρ1 cls d H1 P1 X1 e1 => e1 cls d H1 P1 X1)
    obtain rfl : v1 = a := R1
    exact S1 (.bl (!v1)) H1 P1 (.bl _)
def eAndV (f g : M RV) : M RV := bnd f fun a ρ => match truR ρ a with
  | some true => g ρ
  | some false => .ok a ρ
  | none => .bad
def eOrV (f g : M RV) : M RV := bnd f fun a ρ => match truR ρ a with
  | some true => .ok a ρ
  | some false => g ρ
  | none => .bad
theorem rv_from {K : PySem.W.Frag} {Z : Addr → Prop} {σ : L2.St} {H0 H1 H : Hp} {ρ0 ρ1 ρ : Rho} {v : V} {rv : RV} (P : EPost K Z σ H0 ρ0 H1 ρ1) (h : RVOk K Z σ H1 H ρ v rv) : RVOk K Z σ H0 H ρ v rv := by
  cases rv with
  | val d => exact h
  | bor i => exact h
  | tmp c =>
    obtain ⟨a, e, n, k⟩ := h
    exact ⟨a, e, P.fresh n, k⟩
theorem ev_one {a : Expr} {op : BoolOp} {f : M RV} {pos : Pos} (ha : EV X W a f) : EV X W (.BoolOp op [a] pos) f := pe_one ha
theorem ev_and {a b : Expr} {rest : List Expr} {f g : M RV} {pos : Pos} (ha : EV X W a f) (hb : EV X W (.BoolOp .And (b :: rest) pos) g) : EV X W (.BoolOp .And (a :: b :: rest) pos) (eAndV f g) :=
  pe_imp (pe_andT ha hb) fun σ H Q ⟨Z, ρ, E, S⟩ => by
    refine rd_of E (sat_bnd S) (fun a ρ1 v1 H1 P1 R1 S1 => ?_) fun x ρ1 cls d H1 P1 X1 e1 => e1 cls d H1 P1 X1
    cases q : truR ρ1 a with
    | none => simp only [q] at S1; exact S1.elim
    | some k =>
      simp only [q] at S1
      refine ⟨k, truR_ok P1.rel R1 q, ?_⟩
      cases k with
      | true =>
        rw [if_pos rfl]
        exact rd_of P1.rel S1 (fun a ρ2 v2 H2 P2 R2 S2 => S2 v2 H2 (P1.trans P2) (rv_from P1 R2)) fun x ρ2 cls d H2 P2 X2 e2 => e2 cls d H2 (P1.trans P2) X2
      | false =>
        rw [if_neg Bool.false_ne_true]
        exact S1 v1 H1 P1 R1
theorem ev_or {a b : Expr} {rest : List Expr} {f g : M RV} {pos : Pos} (ha : EV X W a f) (hb : EV X W (.BoolOp .Or (b :: rest) pos) g) : EV X W (.BoolOp .Or (a :: b :: rest) pos) (eOrV f g) :=
  pe_imp (pe_orT ha hb) fun σ H Q ⟨Z, ρ, E, S⟩ => by
    refine rd_of E (sat_bnd S) (fun a ρ1 v1 H1 P1 R1 S1 => ?_) fun x ρ1 cls d H1 P1 X1 e1 => e1 cls d H1 P1 X1
    cases q : truR ρ1 a with
    | none => simp only [q] at S1; exact S1.elim
    | some k =>
      simp only [q] at S1
      refine ⟨k, truR_ok P1.rel R1 q, ?_⟩
      cases k with
      | false =>
        rw [if_neg Bool.false_ne_true]
        exact rd_of P1.rel S1 (fun a ρ2 v2 H2 P2 R2 S2 => S2 v2 H2 (P1.trans P2) (rv_from P1 R2)) fun x ρ2 cls d H2 P2 X2 e2 => e2 cls d H2 (P1.trans P2) X2
      | true =>
        rw [if_pos rfl]
        exact S1 v1 H1 P1 R1
/-- a if t else b -/
def eIf (t : M Bool) (f g : M RV) : M RV := bnd t fun b => if b = true then f else g
theorem ev_if {c a b : Expr} {t : M Bool} {f g : M RV} {pos : Pos} (hc : ET X W c t) (ha : EV X W a f) (hb : EV X W b g) : EV X W (.IfExp c a b pos) (eIf t f g) :=
  pe_imp (pe_ifExp hc ha hb) fun σ H Q ⟨Z, ρ, E, S⟩ => by
    refine rd_of E (sat_bnd S) (fun a ρ1 v1 H1 P1 R1 S1 => ?_) fun x ρ1 cls d H1 P1 X1 e1 => e1 cls d H1 P1 X1
    obtain rfl : v1 = a := R1
    cases v1 with
    | true =>
      rw [if_pos rfl] at S1 ⊢
      exact rd_of P1.rel S1 (fun a ρ2 v2 H2 P2 R2 S2 => S2 v2 H2 (P1.trans P2) (rv_from P1 R2)) fun x ρ2 cls d H2 P2 X2 e2 => e2 cls d H2 (P1.trans P2) X2
    | false =>
      rw [if_neg Bool.false_ne_true] at S1 ⊢
      exact rd_of P1.rel S1 (fun a ρ2 v2 H2 P2 R2 S2 => S2 v2 H2 (P1.trans P2) (rv_from P1 R2)) fun x ρ2 cls d H2 P2 X2 e2 => e2 cls d H2 (P1.trans P2) X2
/-! ### cuts -/
def intPart (ρ : Rho) (a : RV) : Option Int := match der ρ a with
  | some (.int i) => some i
  | _ => none
/-- a bound of a cut: none, or an int -/
abbrev PB (X : Cx) (W : WX) (e : Option Expr) (f : M (Option Int)) : Prop := PO X e (rdG X.K X.mg W (fun _ _ _ _ _ b a => b = a) f)
theorem po_imp {e : Option Expr} {t t' : TO} (h : PO X e t) (i : ∀ σ H Q, t' σ H Q → t σ H Q) : PO X e t' := ⟨fun pins s σ H Q I w => h.run pins s σ H Q I (i σ H Q w)⟩
theorem eb_none : PB X W none (ret none) := po_imp po_none fun σ H Q ⟨Z, ρ, E, S⟩ => S none H (.refl E) rfl
def bSome (f : M RV) : M (Option Int) := bnd f fun a ρ => match intPart ρ a with
  | some i => .ok (some i) ρ
  | none => .bad
theorem eb_some {e : Expr} {f : M RV} (h : EV X W e f) : PB X W (some e) (bSome f) := po_imp (po_some h) fun σ H Q ⟨Z, ρ, E, S⟩ => by
  refine rd_of E (sat_bnd S) (fun a ρ1 v1 H1 P1 R1 S1 => ?_) fun x ρ1 cls d H1 P1 X1 e1 => e1 cls d H1 P1 X1
  unfold intPart at S1
  cases q : der ρ1 a with
  | none => simp only [q] at S1; exact S1.elim
  | some d =>
    simp only [q] at S1
    cases d with
    | int i => exact ⟨i, dvInt (der_ok P1.rel R1 q), S1 (some i) H1 P1 rfl⟩
    | none | bool | str | list | tuple | dict => exact S1.elim
def eCut (f : M RV) (l u : M (Option Int)) : M RV := bnd f fun a => bnd (lift (pin a)) fun a => bnd l fun lo => bnd u fun hi ρ => match der ρ a with
  | some x => (match dCut lo hi x with
    | some rr => .ok (outRV rr) ρ
    | none => .bad)
  | none => .bad
theorem ev_cut {e : Expr} {l u : Option Expr} {f : M RV} {fl fu : M (Option Int)} {p2 pos : Pos} (h : EV X W e f) (hl : PB X W l fl) (hu : PB X W u fu) : EV X W (.Subscript e (.Slice l u none p2) pos) (eCut f fl fu) :=
  pe_imp (pe_slice sl_D h hl hu) fun σ H Q ⟨Z, ρ, E, S⟩ => by
    refine rd_of E (sat_bnd S) (fun a ρ1 v1 H1 P1 R1 S1 => ?_) fun x ρ1 cls d H1 P1 X1 e1 => e1 cls d H1 P1 X1
    obtain ⟨a', ea, S1⟩ := sat_lift S1
    obtain ⟨R1, pn⟩ := pin_ok R1 ea
    refine rd_of P1.rel (sat_bnd S1) (fun lo ρ2 v2 H2 P2 R2 S2 => ?_) fun x ρ1 cls d H2 P2 X1 e1 => e1 cls d H2 (P1.trans P2) X1
    obtain rfl : v2 = lo := R2
    have R1 := pin_keep pn R1 P2 H
    refine rd_of P2.rel (sat_bnd S2) (fun hi ρ3 v3 H3 P3 R3 S3 => ?_) fun x ρ1 cls d H3 P3 X1 e1 => e1 cls d H3 ((P1.trans P2).trans P3) X1
    obtain rfl : v3 = hi := R3
    have R1 := pin_keep pn R1 P3 H
    cases q1 : der ρ3 a' with
    | none => simp only [q1] at S3; exact S3.elim
    | some x =>
      simp only [q1] at S3
      cases q3 : dCut v2 v3 x with
      | none => simp only [q3] at S3; exact S3.elim
      | some rr =>
        simp only [q3] at S3
        exact ⟨_, x, rr, hid_sub, der_ok P3.rel R1 q1, q3, out_rv P3.rel fun v H4 P4 R4 => S3 v H4 (((P1.trans P2).trans P3).trans P4) (rv_from ((P1.trans P2).trans P3) R4)⟩
/-! ### arguments -/
def RVs (K : PySem.W.Frag) (Z : Addr → Prop) (σ : L2.St) (H : Hp) (ρ : Rho) : List V → List RV → Prop := Paired fun v rv => RVOk K Z σ H H ρ v rv ∧ isPin rv
theorem rvs_keep {K : PySem.W.Frag} {Z : Addr → Prop} {σ : L2.St} {H1 H2 : Hp} {ρ1 ρ2 : Rho} {vs : List V} {rs : List RV} (h : RVs K Z σ H1 ρ1 vs rs) (P : EPost K Z σ H1 ρ1 H2 ρ2) : RVs K Z σ H2 ρ2 vs rs := Paired.mapP h fun _ _ ⟨a, b⟩ => ⟨pin_keep b a P _, b⟩
theorem rv_any {K : PySem.W.Frag} {Z : Addr → Prop} {σ : L2.St} {H0 H0' H : Hp} {ρ : Rho} {v : V} {rv : RV} (h : RVOk K Z σ H0 H ρ v rv) (p : isPin rv) : RVOk K Z σ H0' H ρ v rv := by
  cases rv with
  | val d => exact h
  | bor i => exact h
  | tmp c => exact p.elim
abbrev tAs (K : PySem.W.Frag) : Pst (List RV) (List V) := fun Z σ _ H' ρ' vs rs => RVs K Z σ H' ρ' vs rs
abbrev EA (X : Cx) (W : WX) (es : List Expr) (f : M (List RV)) : Prop := PA X es (rdG X.K X.mg W (tAs X.K) f)
theorem pa_imp {es : List Expr} {t t' : TA} (h : PA X es t) (i : ∀ σ H Q, t' σ H Q → t σ H Q) : PA X es t' := ⟨fun p pins s σ H Q I w => h.run p pins s σ H Q I (i σ H Q w)⟩
def aNil : M (List RV) := ret []
def aCons (f : M RV) (r : M (List RV)) : M (List RV) := bnd f fun a => bnd (lift (pin a)) fun a => bnd r fun as => ret (a :: as)
theorem ea_nil : EA X W [] aNil := pa_imp pa_nil fun σ H Q ⟨Z, ρ, E, S⟩ => S [] H (.refl E) .nil
theorem ea_cons {e : Expr} {es : List Expr} {f : M RV} {r : M (List RV)} (h : EV X W e f) (hr : EA X W es r) (hs : starEach (e :: es) X.env = (false, eval e X.env) :: starEach es X.env := by rfl) : EA X W (e :: es) (aCons f r) :=
  pa_imp (pa_cons h hr hs) fun σ H Q ⟨Z, ρ, E, S⟩ => by
    refine rd_of E (sat_bnd S) (fun a ρ1 v1 H1 P1 R1 S1 => ?_) fun x ρ1 cls d H1 P1 X1 e1 => e1 cls d H1 P1 X1
    obtain ⟨a', ea, S1⟩ := sat_lift S1
    obtain ⟨R1, pn⟩ := pin_ok R1 ea
    refine rd_of P1.rel (sat_bnd S1) (fun as ρ2 vs H2 P2 R2 S2 => ?_) fun x ρ1 cls d H2 P2 X1 e1 => e1 cls d H2 (P1.trans P2) X1
    exact S2 (v1 :: vs) H2 (P1.trans P2) (.cons ⟨pin_keep pn R1 P2 _, pn⟩ R2)
def ders (ρ : Rho) : List RV → Option (List D)
  | [] => some []
  | r :: rs => match der ρ r, ders ρ rs with
    | some d, some ds => some (d :: ds)
    | _, _ => none
theorem ders_ok {K : PySem.W.Frag} {Z : Addr → Prop} {σ : L2.St} {H : Hp} {ρ : Rho} (E : ERel K Z σ H ρ) : ∀ {vs : List V} {rs : List RV} {ds : List D}, RVs K Z σ H ρ vs rs → ders ρ rs = some ds → DvAll K (hid H (Hd Z σ ρ)) H vs ds
  | [], [], ds, .nil, e => by cases e; exact .nil
  | v :: vs, r :: rs, ds, .cons h t, e => by
    unfold ders at e
    cases q1 : der ρ r with
    | none => simp only [q1] at e; cases e
    | some d =>
      cases q2 : ders ρ rs with
      | none => simp only [q1, q2] at e; cases e
      | some ds' =>
        simp only [q1, q2] at e
        cases e
        exact .cons (der_ok E h.1 q1) (ders_ok E t q2)
/-- a built-in's call -/
def eB (g : List D → Option RR) (as : M (List RV)) : M RV := bnd as fun rs ρ => match ders ρ rs with
  | some ds => (match g ds with
    | some rr => .ok (outRV rr) ρ
    | none => .bad)
  | none => .bad
theorem rd_B {g : List D → Option RR} {f : M (List RV)} {r : List V → Hp → VK → Prop} {σ : L2.St} {H : Hp} {Q : VK} (hr : ∀ xs H Q, rDn X.K g xs H Q → r xs H Q) (w : rd X.K X.mg W (eB g f) σ H Q) : rdG X.K X.mg W (tAs X.K) f σ H fun vs H1 => r vs H1 Q := by
  obtain ⟨Z, ρ, E, S⟩ := w
  refine rd_of E (sat_bnd S) (fun as ρ1 vs H1 P1 R1 S1 => hr _ _ _ ?_) fun x ρ1 cls d H1 P1 X1 e1 => e1 cls d H1 P1 X1
  cases q1 : ders ρ1 as with
  | none => simp only [q1] at S1; exact S1.elim
  | some ds =>
    simp only [q1] at S1
    cases q3 : g ds with
    | none => simp only [q3] at S1; exact S1.elim
    | some rr =>
      simp only [q3] at S1
      exact ⟨_, ds, rr, hid_sub, ders_ok P1.rel R1 q1, q3, out_rv P1.rel fun v H3 P3 R3 => S1 v H3 (P1.trans P3) (rv_from P1 R3)⟩
theorem ev_B {id : String} {x : Str} {g : List D → Option RR} {e : Expr} {es : List Expr} {f : M (List RV)} {p pos : Pos} (hc : CallR X (.builtin id) (rDn X.K g)) (hg : Gl X x) (hm : X.mg x = none) (hv : bootBuiltins x = some (.builtin id)) (ha : EA X W (e :: es) f) (hn : x ≠ "__name__" := by decide) (hdb : (x == ("__debug__" : Str)) = false := by decide)
    (he : starEach (e :: es) X.env = (false, eval e X.env) :: starEach es X.env := by rfl) (hpl : (backTo pos (starEach es X.env)).any (·.1) = false := by rfl) : EV X W (.Call (.Name x p) (e :: es) [] pos) (eB g f) :=
  pe_imp (pe_callB hc hg hm hv ha hn hdb he hpl) fun σ H Q w => rd_B (X := X) (fun _ _ _ z => z) w
theorem ev_Ty {id : String} {x : Str} {g : List D → Option RR} {e : Expr} {es : List Expr} {f : M (List RV)} {p pos : Pos} (hc : CallR X (.type id) (rDn X.K g)) (hg : Gl X x) (hm : X.mg x = none) (hv : bootBuiltins x = some (.type id)) (ha : EA X W (e :: es) f) (hn : x ≠ "__name__" := by decide) (hdb : (x == ("__debug__" : Str)) = false := by decide)
    (he : starEach (e :: es) X.env = (false, eval e X.env) :: starEach es X.env := by rfl) (hpl : (backTo pos (starEach es X.env)).any (·.1) = false := by rfl) : EV X W (.Call (.Name x p) (e :: es) [] pos) (eB g f) :=
  pe_imp (pe_callTy hc hg hm hv ha hn hdb he hpl) fun σ H Q w => rd_B (X := X) (fun _ _ _ z => z) w
end
end Ev

set_option Elab.async false
set_option linter.all false
set_option maxRecDepth 100000
set_option maxHeartbeats 4000000
set_option autoImplicit false
/-! handing on: displays, calls of defs -/
namespace Ev
open PySem L2 PySem.Spec PyProof.Rows
/-- a value handed on for good: a list that a slot owned is the slot's data from then on -/
def esc (rv : RV) : M D := fun ρ => match rv with
  | .val d => .ok d ρ
  | .tmp (.lst ds) => .ok (.list ds) ρ
  | .tmp (.dic _) => .bad
  | .bor i => match ρ[i]? with
    | some (.val d) => .ok d ρ
    | some (.own false false (.lst ds)) => .ok (.list ds) (ρ.set i (.val (.list ds)))
    | _ => .bad
def escs : List RV → M (List D)
  | [] => ret []
  | r :: rs => bnd (esc r) fun d => bnd (escs rs) fun ds => ret (d :: ds)
section
variable {K : PySem.W.Frag} {Z : Addr → Prop} {σ : L2.St} {H H' H0 H1 H2 : Hp} {ρ ρ' ρ1 ρ2 : Rho} {v : V}
theorem set_get {α : Type} {l : List α} {i j : Nat} {x y : α} (h : (l.set i x)[j]? = some y) : (i = j ∧ y = x) ∨ (i ≠ j ∧ l[j]? = some y) := by
  by_cases e : i = j
  · subst e
    by_cases hl : i < l.length
    · rw [List.getElem?_set_self hl] at h
      exact .inl ⟨rfl, (Option.some.inj h).symm⟩
    · rw [List.getElem?_eq_none (by rw [List.length_set]; omega)] at h
      cases h
  · rw [List.getElem?_set_ne e] at h
    exact .inr ⟨e, h⟩
theorem demote_own {i : Nat} {d : D} {a : Addr} {j : Nat} (h : OwnAt σ (ρ.set i (.val d)) j a) : i ≠ j ∧ OwnAt σ ρ j a := by
  obtain ⟨h1, io, lk, c, h2⟩ := h
  rcases set_get h2 with ⟨_, e⟩ | ⟨ne, e⟩
  · cases e
  · exact ⟨ne, h1, io, lk, c, e⟩
/-- a slot's own list becomes data -/
theorem EPost.demote (E : ERel K Z σ H ρ) {i : Nat} {ds : List D} (hs : ρ[i]? = some (.own false false (.lst ds))) :
    EPost K Z σ H ρ H (ρ.set i (.val (.list ds))) ∧ ∀ v, σ[i]? = some (some v) → Dp K (hid H (Hd Z σ (ρ.set i (.val (.list ds))))) v (.list ds) := by
  have hi : i < ρ.length := (List.getElem?_eq_some_iff.mp hs).1
  have sub : Sub (hid H (Hd Z σ ρ)) (hid H (Hd Z σ (ρ.set i (.val (.list ds))))) := hid_mono fun b o q m => ⟨q, fun z => m (z.elim .inl fun ⟨j, z⟩ => .inr ⟨j, (demote_own z).2⟩)⟩
  have key : ∀ v, σ[i]? = some (some v) → Dp K (hid H (Hd Z σ (ρ.set i (.val (.list ds))))) v (.list ds) := fun v hv => by
    obtain ⟨ov, k1, a, e, vs, h1, h2⟩ := E.slot i _ hs
    rw [hv] at k1
    cases k1
    cases e
    refine .lst (SqL.of (hid_iff.mpr ⟨h1, fun z => ?_⟩)) (dps_mono sub h2)
    rcases z with z | ⟨j, z⟩
    · have := (E.zin i a false false _ hv hs).mpr z
      cases this
    · obtain ⟨ne, z⟩ := demote_own z
      exact ne (E.inj i j a ⟨hv, _, _, _, hs⟩ z)
  refine ⟨⟨⟨by rw [List.length_set]; exact E.len, fun j k a h1 h2 => E.inj j k a (demote_own h1).2 (demote_own h2).2, fun j sl e => ?_, E.zok, fun j a io lk c e1 e2 => ?_⟩, fun _ _ e _ => e, fun _ o e => ⟨o, e⟩, by rw [List.length_set], fun j s e => ?_⟩, key⟩
  · rcases set_get e with ⟨rfl, rfl⟩ | ⟨ne, e⟩
    · obtain ⟨ov, k1, a, e, _⟩ := E.slot i _ hs
      subst e
      exact ⟨_, k1, _, rfl, key _ k1⟩
    · obtain ⟨ov, k1, k2⟩ := E.slot j sl e
      refine ⟨ov, k1, ?_⟩
      cases sl with
      | un => trivial
      | val d =>
        obtain ⟨w, q1, q2⟩ := k2
        exact ⟨w, q1, dp_mono sub q2⟩
      | own io lk c =>
        obtain ⟨a, q1, q2⟩ := k2
        exact ⟨a, q1, cell_mono sub (fun o q => q) q2⟩
  · rcases set_get e2 with ⟨_, z⟩ | ⟨ne, e⟩
    · cases z
    · exact E.zin j a io lk c e1 e
  · by_cases h : i = j
    · subst h
      rw [hs] at e
      cases e
      exact ⟨_, List.getElem?_set_self hi, .esc _ _⟩
    · exact ⟨s, by rw [List.getElem?_set_ne h]; exact e, .refl s⟩
theorem esc_ok (E : ERel K Z σ H ρ) {rv : RV} {d : D} (h : RVOk K Z σ H0 H ρ v rv) (e : esc rv ρ = .ok d ρ') : EPost K Z σ H ρ H ρ' ∧ Dp K (hid H (Hd Z σ ρ')) v d := by
  cases rv with
  | val d' => cases e; exact ⟨.refl E, h⟩
  | tmp c =>
    cases c with
    | lst ds => cases e; exact ⟨.refl E, (pin_ok h rfl).1⟩
    | dic kvs => cases e
  | bor i =>
    obtain ⟨h1, sl, h2, h3⟩ := h
    simp only [esc, h2] at e
    cases sl with
    | un => cases e
    | val d' =>
      cases e
      obtain ⟨ov, k1, w, k2, k3⟩ := E.slot i _ h2
      rw [h1] at k1
      cases k1
      cases k2
      exact ⟨.refl E, k3⟩
    | own io lk c =>
      cases io <;> cases lk <;> cases c <;> simp only [reduceCtorEq] at e
      cases e
      obtain ⟨P, q⟩ := EPost.demote E h2
      exact ⟨P, q v h1⟩
theorem esc_noexc {rv : RV} {x : Xc} : esc rv ρ ≠ .exc x ρ' := by
  intro e
  cases rv with
  | val d => cases e
  | tmp c => cases c <;> cases e
  | bor i =>
    simp only [esc] at e
    cases q : ρ[i]? with
    | none => simp only [q] at e; cases e
    | some sl =>
      simp only [q] at e
      cases sl with
      | un => cases e
      | val d => cases e
      | own io lk c => cases io <;> cases lk <;> cases c <;> cases e
theorem sat_esc {β : Type} {rv : RV} {k : D → M β} {p : β → Rho → Prop} {e : Xc → Rho → Prop} (h : (bnd (esc rv) k ρ).sat p e) : ∃ d ρ', esc rv ρ = .ok d ρ' ∧ (k d ρ').sat p e := by
  unfold bnd at h
  cases q : esc rv ρ with
  | ok d ρ' => rw [q] at h; exact ⟨d, ρ', rfl, h⟩
  | exc x ρ' => exact absurd q esc_noexc
  | bad => rw [q] at h; exact h.elim
theorem escs_ok : ∀ {vs : List V} {rs : List RV} {β : Type} {k : List D → M β} {p : β → Rho → Prop} {e : Xc → Rho → Prop} {ρ : Rho}, ERel K Z σ H ρ → RVs K Z σ H ρ vs rs → (bnd (escs rs) k ρ).sat p e → ∃ ds ρ', EPost K Z σ H ρ H ρ' ∧ DpAll K (hid H (Hd Z σ ρ')) vs ds ∧ (k ds ρ').sat p e
  | [], [], β, k, p, e, ρ, E, .nil, S => ⟨[], ρ, .refl E, .nil, S⟩
  | v :: vs, r :: rs, β, k, p, e, ρ, E, .cons h t, S => by
    have S1 : (bnd (esc r) (fun d => bnd (escs rs) fun ds => k (d :: ds)) ρ).sat p e := by
      have S' := sat_bnd (f := escs (r :: rs)) S
      unfold escs at S'
      unfold bnd at S' ⊢
      cases q : esc r ρ with
      | exc x ρ' => exact absurd q esc_noexc
      | bad => simp only [q] at S'; exact S'.elim
      | ok d ρ' =>
        simp only [q] at S' ⊢
        cases q2 : escs rs ρ' with
        | exc x ρ2 => simp only [q2] at S' ⊢; exact S'
        | bad => simp only [q2] at S'; exact S'.elim
        | ok ds ρ2 => simp only [q2] at S' ⊢; exact S'
    obtain ⟨d, ρ1, q, S2⟩ := sat_esc S1
    obtain ⟨P1, h1⟩ := esc_ok E h.1 q
    obtain ⟨ds, ρ2, P2, h2, S3⟩ := escs_ok P1.rel (rvs_keep t P1) S2
    exact ⟨d :: ds, ρ2, P1.trans P2, .cons (dp_mono P2.sub h1) h2, S3⟩
end
section
variable {X : Cx} {W : WX}
/-! ### displays -/
def eTup (as : M (List RV)) : M RV := bnd as fun rs => bnd (escs rs) fun ds ρ => if ds.length ≤ lim then .ok (.val (.tuple ds)) ρ else .bad
def eLst (as : M (List RV)) : M RV := bnd as fun rs => bnd (escs rs) fun ds ρ => if ds.length ≤ lim then .ok (.tmp (.lst ds)) ρ else .bad
theorem ev_tup {es : List Expr} {f : M (List RV)} {x1 : Nat} {pos : Pos} (h : EA X W es f) : EV X W (.Tuple es x1 pos) (eTup f) := pe_imp (pe_tup h) fun σ H Q ⟨Z, ρ, E, S⟩ => by
  refine rd_of E (sat_bnd S) (fun rs ρ1 vs H1 P1 R1 S1 => ?_) fun x ρ1 cls d H1 P1 X1 e1 => e1 cls d H1 P1 X1
  obtain ⟨ds, ρ2, P2, h2, S2⟩ := escs_ok P1.rel R1 S1
  by_cases hl : ds.length ≤ lim
  · simp only [if_pos hl] at S2
    refine ⟨by rw [dps_len h2]; exact lim_line hl, fun p n => ?_⟩
    have P := P1.trans P2
    refine out_tup (K := X.K) hid_sub (Q := fun v H' => Q v H') (out_rv P.rel (rr := .sol (.tuple ds)) fun v H' P' R' => S2 v H' (P.trans P') R') n h2
  · simp only [if_neg hl] at S2
    exact S2.elim
theorem ev_lst {es : List Expr} {f : M (List RV)} {pos : Pos} (h : EA X W es f) : EV X W (.List es pos) (eLst f) := pe_imp (pe_lst h) fun σ H Q ⟨Z, ρ, E, S⟩ => by
  refine rd_of E (sat_bnd S) (fun rs ρ1 vs H1 P1 R1 S1 => ?_) fun x ρ1 cls d H1 P1 X1 e1 => e1 cls d H1 P1 X1
  obtain ⟨ds, ρ2, P2, h2, S2⟩ := escs_ok P1.rel R1 S1
  by_cases hl : ds.length ≤ lim
  · simp only [if_pos hl] at S2
    refine ⟨by rw [dps_len h2]; exact lim_line hl, fun p n => ?_⟩
    have P := P1.trans P2
    refine out_lst (K := X.K) hid_sub (Q := fun v H' => Q v H') (out_rv P.rel (rr := .lst ds) fun v H' P' R' => S2 v H' (P.trans P') (rv_from P R')) n h2
  · simp only [if_neg hl] at S2
    exact S2.elim
/-! ### defs -/
inductive Rt where
  | val (d : D) | tmp (c : Cell)
def Rt.rv : Rt → RV
  | .val d => .val d
  | .tmp c => .tmp c
abbrev Fn := M Rt
def ParOk (ρ : Rho) : Prop := ∀ (i : Nat) (s : Slot), ρ[i]? = some s → (∃ d, s = .val d) ∨ ∃ c, s = .own true false c
def RtOk (K : PySem.W.Frag) (Z : Addr → Prop) (σ : L2.St) (H0 H : Hp) (ρ : Rho) (v : V) : Rt → Prop
  | .val d => Dp K (hid H Z) v d
  | .tmp c => ∃ a, v = .ref a ∧ H0 a = none ∧ ¬ Z a ∧ ERel K (fun b => Z b ∨ b = a) σ H ρ ∧ CellAt K (hid H fun b => Z b ∨ b = a) H a c
/-- the promise of a def that is the mirror F -/
def spOf (K : PySem.W.Frag) (mg : Str → Option Value) (n : Nat) (F : Fn) : Sp := fun vs H Q E => vs.length = n ∧ ∃ Z ρ, ERel K Z (vs.map some) H ρ ∧ ParOk ρ ∧
  (F ρ).sat (fun r ρ' => ∀ v H', EPost K Z (vs.map some) H ρ H' ρ' → RtOk K Z (vs.map some) H H' ρ' v r → Q v H') fun x ρ' => ∀ cls d H', EPost K Z (vs.map some) H ρ H' ρ' → XcOk mg x cls d H' → E cls d H'
def eCall (F : Fn) (as : M (List RV)) : M RV := bnd as fun rs => bnd (escs rs) fun ds ρ => match F (ds.map .val) with
  | .ok r _ => .ok r.rv ρ
  | .exc x _ => .exc x ρ
  | .bad => .bad
theorem no_own {vs : List V} {ds : List D} {i : Nat} {a : Addr} (h : OwnAt (vs.map some) (ds.map Slot.val) i a) : False := by
  obtain ⟨_, io, lk, c, h⟩ := h
  rw [List.getElem?_map] at h
  cases q : ds[i]? with
  | none => rw [q] at h; cases h
  | some d => rw [q] at h; cases h
theorem rel_vals {K : PySem.W.Frag} {Z : Addr → Prop} {H : Hp} {vs : List V} {ds : List D} (zok : ∀ a, Z a → ∃ o, H a = some o) (h : DpAll K (hid H Z) vs ds) : ERel K Z (vs.map some) H (ds.map Slot.val) := by
  refine ⟨by rw [List.length_map, List.length_map, dps_len h], fun i j a h1 _ => (no_own h1).elim, fun i sl e => ?_, zok, fun i a io lk c e1 e2 => (no_own ⟨e1, io, lk, c, e2⟩).elim⟩
  rw [List.getElem?_map] at e
  cases q : ds[i]? with
  | none => rw [q] at e; cases e
  | some d =>
    rw [q] at e
    cases e
    obtain ⟨v, k1, k2⟩ := dps_at h q
    exact ⟨some v, by rw [List.getElem?_map, k1] <;> rfl, v, rfl, dp_mono (hid_mono fun b o z m => ⟨z, fun t => t.elim m fun ⟨j, t⟩ => no_own t⟩) k2⟩
theorem par_vals (ds : List D) : ParOk (ds.map Slot.val) := fun i s e => by
  rw [List.getElem?_map] at e
  cases q : ds[i]? with
  | none => rw [q] at e; cases e
  | some d => rw [q] at e; cases e; exact .inl ⟨d, rfl⟩
/-- the call of a def by the values of its arguments -/
theorem call_vals {F : Fn} {n : Nat} {Z : Addr → Prop} {σ : L2.St} {H0 H : Hp} {ρ0 ρ : Rho} {vs : List V} {ds : List D} {Q : VK} {E : XK} (P : EPost X.K Z σ H0 ρ0 H ρ) (hn : vs.length = n) (h : DpAll X.K (hid H (Hd Z σ ρ)) vs ds)
    (S : Res.sat (match F (ds.map .val) with | .ok r _ => .ok r.rv ρ | .exc x _ => .exc x ρ | .bad => .bad : Res RV) (fun a ρ' => ∀ b H', EPost X.K Z σ H0 ρ0 H' ρ' → RVOk X.K Z σ H0 H' ρ' b a → Q b H') fun x ρ' => ∀ cls d H', EPost X.K Z σ H0 ρ0 H' ρ' → XcOk X.mg x cls d H' → E cls d H') :
    spOf X.K X.mg n F vs H Q E := by
  refine ⟨hn, Hd Z σ ρ, ds.map .val, rel_vals (fun a z => P.rel.there z) h, par_vals ds, ?_⟩
  have same : ∀ {H' : Hp} {ρ' : Rho}, EPost X.K (Hd Z σ ρ) (vs.map some) H (ds.map .val) H' ρ' → Same H H' := fun p b o e => p.fr b o e fun m => (m.own.elim fun i z => no_own z)
  cases q : F (ds.map .val) with
  | bad => rw [q] at S; exact S.elim
  | exc x ρ' =>
    rw [q] at S
    exact fun cls d H' p xx => S cls d H' (P.trans (.same P.rel (same p))) xx
  | ok r ρ' =>
    rw [q] at S
    intro v H' p rr
    have s := same p
    refine S v H' (P.trans (.same P.rel s)) ?_
    cases r with
    | val d => exact rr
    | tmp c =>
      obtain ⟨a, e, n0, nz, E', k⟩ := rr
      obtain ⟨o, t⟩ := cell_there k
      exact ⟨a, e, P.fresh n0, fun z => nz (.inl z), fun z => nz (.inr z), P.rel.hide s n0 ⟨o, t⟩, k⟩
/-- a def of the text that is the mirror F -/
structure DefOk (P : Program) (w : World) (K : PySem.W.Frag) (mg : Str → Option Value) (base : Heap) (k : Nat) (x : Str) (ps : List Str) (F : Fn) : Prop where
  ex : ∃ f fd, FnOk P w K mg base (L2.CX P w) k f fd ps (spOf K mg ps.length F) ∧ mg x = some (.ref f) ∧ PySem.W.keepIn K (.ref f) = true ∧ Binds K fd ps []
theorem rvs_len {K : PySem.W.Frag} {Z : Addr → Prop} {σ : L2.St} {H : Hp} {ρ : Rho} {vs : List V} {rs : List RV} (h : RVs K Z σ H ρ vs rs) : vs.length = rs.length := Paired.length h
theorem ev_call {k j : Nat} {ps : List Str} {x : Str} {F : Fn} {e : Expr} {es : List Expr} {as : M (List RV)} {p pos : Pos}
    (G : DefOk X.prog X.w X.K X.mg X.base k x ps F) (hr : Room j X.A) (hj : k ≤ j) (hg : Gl X x) (tk : Takes X W)
    (ha : EA X W (e :: es) as) (hdb : (x == ("__debug__" : Str)) = false := by decide) (hs : starEach (e :: es) X.env = (false, eval e X.env) :: starEach es X.env := by rfl) (hpl : (backTo pos (starEach es X.env)).any (·.1) = false := by rfl)
    (hn : ∀ ρ rs ρ', as ρ = .ok rs ρ' → rs.length = ps.length) : EV X W (.Call (.Name x p) (e :: es) [] pos) (eCall F as) := by
  obtain ⟨f, fd, g, hm, hk, hb⟩ := G.ex
  refine pe_imp (pe_callS (E := WE W) g (hr.mono hj) hg hm hk hb (passAt tk) ha hdb hs hpl) fun σ H Q ⟨Z, ρ, E, S⟩ => ?_
  have len := hn ρ
  cases qa : as ρ with
  | bad => unfold eCall bnd at S; rw [qa] at S; exact S.elim
  | exc x' ρ' =>
    unfold eCall bnd at S
    rw [qa] at S
    refine ⟨Z, ρ, E, ?_⟩
    rw [qa]
    exact S
  | ok rs ρ1 =>
    have len := len rs ρ1 qa
    unfold eCall at S
    unfold bnd at S
    rw [qa] at S
    refine ⟨Z, ρ, E, ?_⟩
    rw [qa]
    intro vs H1 P1 R1
    obtain ⟨ds, ρ2, P2, h2, S2⟩ := escs_ok P1.rel R1 S
    exact call_vals (P1.trans P2) ((rvs_len R1).trans len) h2 S2
/-! one argument by reference -/
def callU (F : Fn) (i : Nat) (ds0 ds1 : List D) : M RV := fun ρ => match ρ[i]? with
  | some (.own io false c) => (match F (ds0.map .val ++ .own true false c :: ds1.map .val) with
    | .ok r sl => (match sl[ds0.length]? with
      | some (.own _ _ c') => .ok r.rv (ρ.set i (.own io false c'))
      | _ => .bad)
    | .exc x sl => (match sl[ds0.length]? with
      | some (.own _ _ c') => .exc x (ρ.set i (.own io false c'))
      | _ => .bad)
    | .bad => .bad)
  | _ => .bad
def eCallU (F : Fn) (p : Nat) (as : M (List RV)) : M RV := bnd as fun rs => match rs[p]? with
  | some (.bor i) => bnd (escs (rs.take p)) fun ds0 => bnd (escs (rs.drop (p + 1))) fun ds1 => callU F i ds0 ds1
  | _ => fun _ => .bad
theorem par_get {ds0 ds1 : List D} {s : Slot} {i : Nat} {t : Slot} (h : (ds0.map Slot.val ++ s :: ds1.map Slot.val)[i]? = some t) : (i = ds0.length ∧ t = s) ∨ ∃ d, t = .val d := by
  by_cases h1 : i < ds0.length
  · rw [List.getElem?_append_left (by rw [List.length_map]; exact h1), List.getElem?_map, List.getElem?_eq_getElem h1] at h
    cases h
    exact .inr ⟨_, rfl⟩
  · rw [List.getElem?_append_right (by rw [List.length_map]; omega), List.length_map] at h
    cases q : i - ds0.length with
    | zero =>
      rw [q] at h
      cases h
      exact .inl ⟨by omega, rfl⟩
    | succ m =>
      rw [q, List.getElem?_cons_succ, List.getElem?_map] at h
      cases q2 : ds1[m]? with
      | none => rw [q2] at h; cases h
      | some d => rw [q2] at h; cases h; exact .inr ⟨_, rfl⟩
theorem own_setc {σ : L2.St} {ρ : Rho} {i : Nat} {io : Bool} {c c' : Cell} (hs : ρ[i]? = some (.own io false c)) {j : Nat} {a : Addr} : OwnAt σ (ρ.set i (.own io false c')) j a ↔ OwnAt σ ρ j a := by
  have hi : i < ρ.length := (List.getElem?_eq_some_iff.mp hs).1
  constructor
  · rintro ⟨h1, io1, lk1, c1, h2⟩
    rcases set_get h2 with ⟨rfl, e⟩ | ⟨ne, e⟩
    · exact ⟨h1, _, _, _, hs⟩
    · exact ⟨h1, _, _, _, e⟩
  · rintro ⟨h1, io1, lk1, c1, h2⟩
    by_cases e : i = j
    · subst e
      exact ⟨h1, _, _, _, List.getElem?_set_self hi⟩
    · exact ⟨h1, _, _, _, by rw [List.getElem?_set_ne e]; exact h2⟩
/-- a slot's own object is another one now: its place as before, its content new -/
theorem ERel.put {K : PySem.W.Frag} {Z N : Addr → Prop} {σ : L2.St} {H H' : Hp} {ρ : Rho} {i : Nat} {io : Bool} {c c' : Cell} {a : Addr} (E : ERel K Z σ H ρ) (ha : σ[i]? = some (some (.ref a))) (hs : ρ[i]? = some (.own io false c))
    (fr : ∀ b o, H b = some o → b ≠ a → H' b = some o) (dom : ∀ b o, H b = some o → ∃ o', H' b = some o') (nw : ∀ b, N b → H b = none ∧ ∃ o, H' b = some o)
    (hc : CellAt K (hid H' fun b => Hd Z σ ρ b ∨ N b) H' a c') : ERel K (fun b => Z b ∨ N b) σ H' (ρ.set i (.own io false c')) := by
  have hi : i < ρ.length := (List.getElem?_eq_some_iff.mp hs).1
  have hd : ∀ b, Hd (fun b => Z b ∨ N b) σ (ρ.set i (.own io false c')) b → Hd Z σ ρ b ∨ N b := fun b z => by
    rcases z with (z | z) | ⟨j, z⟩
    · exact .inl (.inl z)
    · exact .inr z
    · exact .inl (.inr ⟨j, (own_setc hs).mp z⟩)
  have aown : Own σ ρ a := ⟨i, ha, _, _, _, hs⟩
  have sub : Sub (hid H (Hd Z σ ρ)) (hid H' (Hd (fun b => Z b ∨ N b) σ (ρ.set i (.own io false c')))) := hid_mono fun b o q m => ⟨fr b o q fun e => m (.inr (e ▸ aown)), fun z => by
    rcases hd b z with z | z
    · exact m z
    · rw [(nw b z).1] at q; cases q⟩
  refine ⟨by rw [List.length_set]; exact E.len, fun j k b h1 h2 => E.inj j k b ((own_setc hs).mp h1) ((own_setc hs).mp h2), fun j sl e => ?_, fun b z => ?_, fun j b io1 lk1 c1 e1 e2 => ?_⟩
  · rcases set_get e with ⟨rfl, rfl⟩ | ⟨ne, e⟩
    · exact ⟨_, ha, a, rfl, cell_mono (hid_mono fun b o q m => ⟨q, fun z => m (hd b z)⟩) (fun o q => q) hc⟩
    · obtain ⟨ov, k1, k2⟩ := E.slot j sl e
      refine ⟨ov, k1, ?_⟩
      cases sl with
      | un => trivial
      | val d =>
        obtain ⟨w, q1, q2⟩ := k2
        exact ⟨w, q1, dp_mono sub q2⟩
      | own io1 lk1 c1 =>
        obtain ⟨b, q1, q2⟩ := k2
        subst q1
        refine ⟨b, rfl, cell_mono sub (fun o q => fr b o q ?_) q2⟩
        rintro rfl
        exact ne (E.inj i j b ⟨ha, _, _, _, hs⟩ ⟨k1, _, _, _, e⟩)
  · rcases z with z | z
    · obtain ⟨o, q⟩ := E.zok b z
      exact dom b o q
    · exact (nw b z).2
  · have key : ∀ c2 lk2, ρ[j]? = some (.own io1 lk2 c2) → (io1 = true ↔ Z b ∨ N b) := fun c2 lk2 q => by
      rw [E.zin j b io1 lk2 c2 e1 q]
      constructor
      · exact .inl
      · rintro (z | z)
        · exact z
        · obtain ⟨o, t⟩ := E.there (.inr ⟨j, e1, _, _, _, q⟩)
          rw [(nw b z).1] at t
          cases t
    rcases set_get e2 with ⟨rfl, z⟩ | ⟨ne, e⟩
    · cases z
      exact key _ _ hs
    · exact key _ _ e
theorem evos_set {ρ : Rho} {i : Nat} {io : Bool} {c c' : Cell} (hs : ρ[i]? = some (.own io false c)) : Evos ρ (ρ.set i (.own io false c')) := ⟨by rw [List.length_set], fun j s e => by
  have hi : i < ρ.length := (List.getElem?_eq_some_iff.mp hs).1
  by_cases h : i = j
  · subst h
    rw [hs] at e
    cases e
    exact ⟨_, List.getElem?_set_self hi, .upd _ _ _⟩
  · exact ⟨s, by rw [List.getElem?_set_ne h]; exact e, .refl s⟩⟩
theorem dps_split {K : PySem.W.Frag} {H : Hp} {vs0 vs1 : List V} {ds0 ds1 : List D} {i : Nat} {d : D} (h0 : DpAll K H vs0 ds0) (h1 : DpAll K H vs1 ds1) (v : V) (s : Slot) (hne : i ≠ ds0.length) (e : (ds0.map Slot.val ++ s :: ds1.map Slot.val)[i]? = some (.val d)) :
    ∃ u, (vs0 ++ v :: vs1)[i]? = some u ∧ Dp K H u d := by
  have l0 := dps_len h0
  by_cases hlt : i < ds0.length
  · rw [List.getElem?_append_left (by rw [List.length_map]; exact hlt), List.getElem?_map] at e
    cases q : ds0[i]? with
    | none => rw [q] at e; cases e
    | some d' =>
      rw [q] at e
      cases e
      obtain ⟨u, k1, k2⟩ := dps_at h0 q
      exact ⟨u, by rw [List.getElem?_append_left (by rw [l0]; exact hlt)]; exact k1, k2⟩
  · rw [List.getElem?_append_right (by rw [List.length_map]; omega), List.length_map] at e
    obtain ⟨m, hm⟩ : ∃ m, i - ds0.length = m + 1 := ⟨i - ds0.length - 1, by omega⟩
    rw [hm, List.getElem?_cons_succ, List.getElem?_map] at e
    cases q : ds1[m]? with
    | none => rw [q] at e; cases e
    | some d' =>
      rw [q] at e
      cases e
      obtain ⟨u, k1, k2⟩ := dps_at h1 q
      exact ⟨u, by rw [List.getElem?_append_right (by rw [l0]; omega), l0, hm, List.getElem?_cons_succ]; exact k1, k2⟩
/-- the call of a def one argument of which is a slot's own object -/
theorem call_valsU {F : Fn} {n : Nat} {Z : Addr → Prop} {σ : L2.St} {H0 H : Hp} {ρ0 ρ : Rho} {vs0 vs1 : List V} {v : V} {ds0 ds1 : List D} {i : Nat} {Q : VK} {E : XK} (P : EPost X.K Z σ H0 ρ0 H ρ) (hn : (vs0 ++ v :: vs1).length = n) (hv : σ[i]? = some (some v))
    (h0 : DpAll X.K (hid H (Hd Z σ ρ)) vs0 ds0) (h1 : DpAll X.K (hid H (Hd Z σ ρ)) vs1 ds1)
    (S : (callU F i ds0 ds1 ρ).sat (fun a ρ' => ∀ b H', EPost X.K Z σ H0 ρ0 H' ρ' → RVOk X.K Z σ H0 H' ρ' b a → Q b H') fun x ρ' => ∀ cls d H', EPost X.K Z σ H0 ρ0 H' ρ' → XcOk X.mg x cls d H' → E cls d H') :
    spOf X.K X.mg n F (vs0 ++ v :: vs1) H Q E := by
  unfold callU at S
  cases hs : ρ[i]? with
  | none => simp only [hs] at S; exact S.elim
  | some sl =>
    simp only [hs] at S
    cases sl with
    | un => exact S.elim
    | val d => exact S.elim
    | own io lk c =>
      cases lk with
      | true => exact S.elim
      | false =>
        simp only at S
        obtain ⟨ov, k1, a, e, hc⟩ := P.rel.slot i _ hs
        rw [hv] at k1
        cases k1
        cases e
        have l0 := dps_len h0
        have aown : Own σ ρ a := ⟨i, hv, _, _, _, hs⟩
        -- the callee's own place is that one alone
        have own1 : ∀ j b, OwnAt ((vs0 ++ V.ref a :: vs1).map some) (ds0.map Slot.val ++ .own true false c :: ds1.map Slot.val) j b → j = ds0.length ∧ b = a := fun j b ⟨q1, io1, lk1, c1, q2⟩ => by
          rcases par_get q2 with ⟨rfl, _⟩ | ⟨d, z⟩
          · refine ⟨rfl, ?_⟩
            rw [List.getElem?_map, List.getElem?_append_right (by omega), l0, Nat.sub_self] at q1
            cases q1
            rfl
          · cases z
        have at1 : ((vs0 ++ V.ref a :: vs1).map some)[ds0.length]? = some (some (V.ref a)) := by
          rw [List.getElem?_map, List.getElem?_append_right (by omega), l0, Nat.sub_self] <;> rfl
        have at2 : (ds0.map Slot.val ++ Slot.own true false c :: ds1.map Slot.val)[ds0.length]? = some (.own true false c) := by
          rw [List.getElem?_append_right (by rw [List.length_map]; omega), List.length_map, Nat.sub_self] <;> rfl
        have hdc : ∀ b, Hd (Hd Z σ ρ) ((vs0 ++ V.ref a :: vs1).map some) (ds0.map Slot.val ++ .own true false c :: ds1.map Slot.val) b → Hd Z σ ρ b := fun b z => by
          rcases z with z | ⟨j, z⟩
          · exact z
          · rw [(own1 j b z).2]; exact .inr aown
        have subc : Sub (hid H (Hd Z σ ρ)) (hid H (Hd (Hd Z σ ρ) ((vs0 ++ V.ref a :: vs1).map some) (ds0.map Slot.val ++ .own true false c :: ds1.map Slot.val))) := hid_mono fun b o q m => ⟨q, fun z => m (hdc b z)⟩
        have Ec : ERel X.K (Hd Z σ ρ) ((vs0 ++ V.ref a :: vs1).map some) H (ds0.map Slot.val ++ .own true false c :: ds1.map Slot.val) := by
          refine ⟨?_, fun j k b q1 q2 => (own1 j b q1).1.trans (own1 k b q2).1.symm, fun j sl q => ?_, fun b z => P.rel.there z, fun j b io1 lk1 c1 q1 q2 => ?_⟩
          · simp only [List.length_map, List.length_append, List.length_cons, l0, dps_len h1]
          · rcases par_get q with ⟨rfl, rfl⟩ | ⟨d, rfl⟩
            · exact ⟨_, at1, a, rfl, cell_mono subc (fun o z => z) hc⟩
            · have hne : j ≠ ds0.length := by rintro rfl; rw [at2] at q; cases q
              obtain ⟨u, u1, u2⟩ := dps_split h0 h1 (V.ref a) _ hne q
              exact ⟨some u, by rw [List.getElem?_map, u1] <;> rfl, u, rfl, dp_mono subc u2⟩
          · obtain ⟨rfl, rfl⟩ := own1 j b ⟨q1, io1, lk1, c1, q2⟩
            rw [at2] at q2
            cases q2
            exact ⟨fun _ => .inr aown, fun _ => rfl⟩
        refine ⟨hn, Hd Z σ ρ, _, Ec, fun j s q => ?_, ?_⟩
        · rcases par_get q with ⟨_, rfl⟩ | ⟨d, rfl⟩
          · exact .inr ⟨c, rfl⟩
          · exact .inl ⟨d, rfl⟩
        -- behind the call
        have after : ∀ {H' : Hp} {sl : Rho}, EPost X.K (Hd Z σ ρ) ((vs0 ++ V.ref a :: vs1).map some) H (ds0.map Slot.val ++ .own true false c :: ds1.map Slot.val) H' sl → ∃ c', sl[ds0.length]? = some (.own true false c') ∧
            (∀ b o, H b = some o → b ≠ a → H' b = some o) ∧ EPost X.K Z σ H0 ρ0 H' (ρ.set i (.own io false c')) ∧ CellAt X.K (hid H' (Hd Z σ ρ)) H' a c' := fun {H' sl} p => by
          obtain ⟨s', e1, v1⟩ := p.evo.2 _ _ at2
          have : ∃ c', s' = .own true false c' := by cases v1 <;> exact ⟨_, rfl⟩
          obtain ⟨c', rfl⟩ := this
          have fr : ∀ b o, H b = some o → b ≠ a → H' b = some o := fun b o q ne => p.fr b o q fun m => ne (own1 _ b m.own.choose_spec).2
          obtain ⟨ov, m1, a', m2, m3⟩ := p.rel.slot _ _ e1
          rw [at1] at m1
          cases m1
          cases m2
          have hc' : CellAt X.K (hid H' (Hd Z σ ρ)) H' a c' := cell_mono (hid_mono fun b o q m => ⟨q, fun z => m (.inl z)⟩) (fun o q => q) m3
          refine ⟨c', e1, fr, P.trans ⟨?_, fun b o q m => fr b o q fun e => m (e ▸ ⟨i, io, c, hv, hs⟩), p.dom, evos_set hs⟩, hc'⟩
          have := ERel.put (N := fun _ => False) P.rel hv hs fr p.dom (fun b z => z.elim) (cell_mono (hid_mono fun b o q m => ⟨q, fun z => m (z.elim id False.elim)⟩) (fun o q => q) hc')
          have ez : (fun b => Z b ∨ False) = Z := by funext b; exact propext ⟨fun z => z.elim id False.elim, .inl⟩
          rw [ez] at this
          exact this
        cases q : F (ds0.map .val ++ .own true false c :: ds1.map .val) with
        | bad => rw [q] at S; exact S.elim
        | exc x sl =>
          rw [q] at S
          intro cls d H' p xx
          obtain ⟨c', e1, fr, P', hc'⟩ := after p
          simp only [e1] at S
          exact S cls d H' P' xx
        | ok r sl =>
          rw [q] at S
          intro u H' p rr
          obtain ⟨c', e1, fr, P', hc'⟩ := after p
          simp only [e1] at S
          refine S u H' P' ?_
          have hdd : ∀ b, Hd Z σ (ρ.set i (.own io false c')) b → Hd Z σ ρ b := fun b z => z.elim .inl fun ⟨j, z⟩ => .inr ⟨j, (own_setc hs).mp z⟩
          cases r with
          | val d => exact dp_mono (hid_mono fun b o t m => ⟨t, fun z => m (hdd b z)⟩) rr
          | tmp cr =>
            obtain ⟨t, et, n0, nz, E', kt⟩ := rr
            obtain ⟨o, there⟩ := cell_there kt
            refine ⟨t, et, P.fresh n0, fun z => nz (.inl z), fun z => nz (hdd t (.inr z)), ?_, cell_mono (hid_mono fun b o q m => ⟨q, fun z => m (z.elim (fun z => .inl (hdd b z)) .inr)⟩) (fun o q => q) kt⟩
            obtain ⟨ov, m1, a', m2, m3⟩ := E'.slot _ _ e1
            rw [at1] at m1
            cases m1
            cases m2
            exact ERel.put (N := fun b => b = t) P.rel hv hs fr p.dom (fun b z => by subst z; exact ⟨n0, o, there⟩) (cell_mono (hid_mono fun b o q m => ⟨q, fun z => m (.inl z)⟩) (fun o q => q) m3)
theorem rvs_at {K : PySem.W.Frag} {Z : Addr → Prop} {σ : L2.St} {H : Hp} {ρ : Rho} : ∀ {vs : List V} {rs : List RV} {p : Nat} {r : RV}, RVs K Z σ H ρ vs rs → rs[p]? = some r → ∃ v, vs = vs.take p ++ v :: vs.drop (p + 1) ∧ RVOk K Z σ H H ρ v r ∧ RVs K Z σ H ρ (vs.take p) (rs.take p) ∧ RVs K Z σ H ρ (vs.drop (p + 1)) (rs.drop (p + 1))
  | [], [], p, r, .nil, e => by cases p <;> cases e
  | v :: vs, r' :: rs, 0, r, .cons h t, e => by
    cases e
    exact ⟨v, rfl, h.1, .nil, t⟩
  | v :: vs, r' :: rs, p + 1, r, .cons h t, e => by
    obtain ⟨u, h1, h2, h3, h4⟩ := rvs_at (p := p) t e
    refine ⟨u, ?_, h2, .cons h h3, h4⟩
    rw [List.take_succ_cons, List.drop_succ_cons, List.cons_append, ← h1]
theorem ev_callU {k j pp : Nat} {ps : List Str} {x : Str} {F : Fn} {e : Expr} {es : List Expr} {as : M (List RV)} {p pos : Pos}
    (G : DefOk X.prog X.w X.K X.mg X.base k x ps F) (hr : Room j X.A) (hj : k ≤ j) (hg : Gl X x) (tk : Takes X W)
    (ha : EA X W (e :: es) as) (hdb : (x == ("__debug__" : Str)) = false := by decide) (hs : starEach (e :: es) X.env = (false, eval e X.env) :: starEach es X.env := by rfl) (hpl : (backTo pos (starEach es X.env)).any (·.1) = false := by rfl)
    (hn : ∀ ρ rs ρ', as ρ = .ok rs ρ' → rs.length = ps.length) : EV X W (.Call (.Name x p) (e :: es) [] pos) (eCallU F pp as) := by
  obtain ⟨f, fd, g, hm, hk, hb⟩ := G.ex
  refine pe_imp (pe_callS (E := WE W) g (hr.mono hj) hg hm hk hb (passAt tk) ha hdb hs hpl) fun σ H Q ⟨Z, ρ, E, S⟩ => ?_
  have len := hn ρ
  unfold eCallU bnd at S
  cases qa : as ρ with
  | bad => rw [qa] at S; exact S.elim
  | exc x' ρ' =>
    rw [qa] at S
    refine ⟨Z, ρ, E, ?_⟩
    rw [qa]
    exact S
  | ok rs ρ1 =>
    have len := len rs ρ1 qa
    simp only [qa] at S
    refine ⟨Z, ρ, E, ?_⟩
    rw [qa]
    intro vs H1 P1 R1
    cases qr : rs[pp]? with
    | none => simp only [qr] at S; exact S.elim
    | some r =>
      simp only [qr] at S
      cases r with
      | val d => exact S.elim
      | tmp c => exact S.elim
      | bor i =>
        obtain ⟨v, ev, rv, rv0, rv1⟩ := rvs_at R1 qr
        obtain ⟨ds0, ρ2, P2, h2, S2⟩ := escs_ok P1.rel rv0 S
        obtain ⟨ds1, ρ3, P3, h3, S3⟩ := escs_ok P2.rel (rvs_keep rv1 P2) S2
        have hl := (rvs_len R1).trans len
        rw [ev] at hl ⊢
        exact call_valsU ((P1.trans P2).trans P3) hl rv.1 (dps_mono P3.sub h2) h3 S3
end
end Ev

set_option Elab.async false
set_option linter.all false
set_option maxRecDepth 100000
set_option maxHeartbeats 4000000
set_option autoImplicit false
/-! storing; targets; what is walked -/
namespace Ev
open PySem L2 PySem.Spec PyProof.Rows
/-- behind a statement -/
structure SPost (K : PySem.W.Frag) (Z : Addr → Prop) (σ : L2.St) (H : Hp) (ρ : Rho) (σ' : L2.St) (H' : Hp) (ρ' : Rho) : Prop where
  rel : ERel K Z σ' H' ρ'
  fr : ∀ b o, H b = some o → ¬ Mut σ ρ b → H' b = some o
  dom : ∀ b o, H b = some o → ∃ o', H' b = some o'
  own : ∀ a, Own σ' ρ' a → Own σ ρ a ∨ H a = none
  mt : ∀ a, Mut σ' ρ' a → Mut σ ρ a ∨ H a = none
  lk : ∀ (i : Nat) (io : Bool) (c : Cell), ρ'[i]? = some (.own io true c) → ρ[i]? = some (.own io true c) ∧ σ'[i]? = σ[i]?
  io : ∀ (i : Nat) (lk : Bool) (c : Cell), ρ[i]? = some (.own true lk c) → ∃ c', ρ'[i]? = some (.own true lk c') ∧ σ'[i]? = σ[i]?
section
variable {K : PySem.W.Frag} {Z : Addr → Prop} {σ σ' σ1 σ2 : L2.St} {H H' H1 H2 : Hp} {ρ ρ' ρ1 ρ2 : Rho} {v : V}
theorem SPost.refl (E : ERel K Z σ H ρ) : SPost K Z σ H ρ σ H ρ := ⟨E, fun _ _ e _ => e, fun _ o e => ⟨o, e⟩, fun _ h => .inl h, fun _ h => .inl h, fun _ _ _ h => ⟨h, rfl⟩, fun _ _ c h => ⟨c, h, rfl⟩⟩
theorem SPost.new (a : SPost K Z σ H ρ σ1 H1 ρ1) {p : Addr} (n : H1 p = none) : H p = none := by
  cases q : H p with
  | none => rfl
  | some o =>
    obtain ⟨o', e⟩ := a.dom p o q
    rw [n] at e
    cases e
theorem SPost.trans (a : SPost K Z σ H ρ σ1 H1 ρ1) (b : SPost K Z σ1 H1 ρ1 σ2 H2 ρ2) : SPost K Z σ H ρ σ2 H2 ρ2 := by
  refine ⟨b.rel, fun c o e n => b.fr c o (a.fr c o e n) fun z => ?_, fun c o e => ?_, fun c z => ?_, fun c z => ?_, fun i io c e => ?_, fun i lk c e => ?_⟩
  · rcases a.mt c z with z | z
    · exact n z
    · rw [e] at z; cases z
  · obtain ⟨o1, e1⟩ := a.dom c o e
    exact b.dom c o1 e1
  · rcases b.own c z with z | z
    · exact a.own c z
    · exact .inr (a.new z)
  · rcases b.mt c z with z | z
    · exact a.mt c z
    · exact .inr (a.new z)
  · obtain ⟨e1, s1⟩ := b.lk i io c e
    obtain ⟨e2, s2⟩ := a.lk i io c e1
    exact ⟨e2, s1.trans s2⟩
  · obtain ⟨c1, e1, s1⟩ := a.io i lk c e
    obtain ⟨c2, e2, s2⟩ := b.io i lk c1 e1
    exact ⟨c2, e2, s2.trans s1⟩
theorem EPost.sp (a : EPost K Z σ H ρ H' ρ') : SPost K Z σ H ρ σ H' ρ' := by
  refine ⟨a.rel, a.fr, a.dom, fun c z => .inl (a.evo.owns z), fun c z => .inl (a.evo.mut z), fun i io c e => ?_, fun i lk c e => ?_⟩
  · obtain ⟨s, e1, v⟩ := a.evo.back e
    cases v with
    | refl => exact ⟨e1, rfl⟩
  · obtain ⟨s', e1, v⟩ := a.evo.2 i _ e
    cases v with
    | refl => exact ⟨c, e1, rfl⟩
    | upd => exact ⟨_, e1, rfl⟩
theorem SPost.sub (a : SPost K Z σ H ρ σ' H' ρ') : Sub (hid H (Hd Z σ ρ)) (hid H' (Hd Z σ' ρ')) := hid_mono fun b o e n => ⟨a.fr b o e fun z => n (.inr z.own), fun z => by
  rcases z with z | z
  · exact n (.inl z)
  · rcases a.own b z with z | z
    · exact n (.inr z)
    · rw [e] at z; cases z⟩
/-- what no slot may change just now -/
theorem SPost.subM (a : SPost K Z σ H ρ σ' H' ρ') : Sub (hid H (Mut σ ρ)) (hid H' (Mut σ' ρ')) := hid_mono fun b o e n => ⟨a.fr b o e n, fun z => by
  rcases a.mt b z with z | z
  · exact n z
  · rw [e] at z; cases z⟩
/-- a slot into which one may store -/
def free1 : Slot → Bool
  | .own true _ _ => false
  | .own false true _ => false
  | _ => true
theorem own_set {i : Nat} {x : Option V} {s : Slot} {j : Nat} {a : Addr} (h : OwnAt (σ.set i x) (ρ.set i s) j a) : (i = j ∧ x = some (.ref a) ∧ ∃ io lk c, s = .own io lk c) ∨ (i ≠ j ∧ OwnAt σ ρ j a) := by
  obtain ⟨h1, io, lk, c, h2⟩ := h
  rcases set_get h2 with ⟨rfl, e⟩ | ⟨ne, e⟩
  · rcases set_get h1 with ⟨_, e1⟩ | ⟨ne, _⟩
    · exact .inl ⟨rfl, e1.symm, io, lk, c, e.symm⟩
    · exact absurd rfl ne
  · rw [List.getElem?_set_ne ne] at h1
    exact .inr ⟨ne, h1, io, lk, c, e⟩
/-- data stored in a slot -/
theorem SPost.store (E : ERel K Z σ H ρ) {i : Nat} {s0 : Slot} {d : D} (hs : ρ[i]? = some s0) (hf : free1 s0 = true) (hd : Dp K (hid H (Hd Z σ ρ)) v d) : SPost K Z σ H ρ (σ.set i (some v)) H (ρ.set i (.val d)) := by
  have hi : i < ρ.length := (List.getElem?_eq_some_iff.mp hs).1
  have hiσ : i < σ.length := by rw [E.len]; exact hi
  have own0 : ∀ j a, OwnAt (σ.set i (some v)) (ρ.set i (.val d)) j a → i ≠ j ∧ OwnAt σ ρ j a := fun j a h => by
    rcases own_set h with ⟨_, _, _, _, _, e⟩ | h
    · cases e
    · exact h
  have hdd : ∀ a, Hd Z (σ.set i (some v)) (ρ.set i (.val d)) a → Hd Z σ ρ a := fun a h => h.elim .inl fun ⟨j, z⟩ => .inr ⟨j, (own0 j a z).2⟩
  have sub : Sub (hid H (Hd Z σ ρ)) (hid H (Hd Z (σ.set i (some v)) (ρ.set i (.val d)))) := hid_mono fun b o q m => ⟨q, fun z => m (hdd b z)⟩
  refine ⟨⟨by rw [List.length_set, List.length_set]; exact E.len, fun j k a h1 h2 => E.inj j k a (own0 j a h1).2 (own0 k a h2).2, fun j sl e => ?_, E.zok, fun j a io lk c e1 e2 => ?_⟩, fun _ _ e _ => e, fun _ o e => ⟨o, e⟩, fun a ⟨j, h⟩ => .inl ⟨j, (own0 j a h).2⟩, fun a h => ?_, fun j io c e => ?_, fun j lk c e => ?_⟩
  · rcases set_get e with ⟨rfl, rfl⟩ | ⟨ne, e⟩
    · exact ⟨_, List.getElem?_set_self hiσ, v, rfl, dp_mono sub hd⟩
    · obtain ⟨ov, k1, k2⟩ := E.slot j sl e
      refine ⟨ov, by rw [List.getElem?_set_ne ne]; exact k1, ?_⟩
      cases sl with
      | un => trivial
      | val d =>
        obtain ⟨w, q1, q2⟩ := k2
        exact ⟨w, q1, dp_mono sub q2⟩
      | own io lk c =>
        obtain ⟨a, q1, q2⟩ := k2
        exact ⟨a, q1, cell_mono sub (fun o q => q) q2⟩
  · obtain ⟨ne, q1, _⟩ := own0 j a ⟨e1, io, lk, c, e2⟩
    rw [List.getElem?_set_ne ne] at e2
    exact E.zin j a io lk c q1 e2
  · obtain ⟨j, io, c, e1, e2⟩ := h
    obtain ⟨ne, q1, _⟩ := own0 j a ⟨e1, io, false, c, e2⟩
    rw [List.getElem?_set_ne ne] at e2
    exact .inl ⟨j, io, c, q1, e2⟩
  · rcases set_get e with ⟨_, z⟩ | ⟨ne, e⟩
    · cases z
    · exact ⟨e, List.getElem?_set_ne ne⟩
  · by_cases h : i = j
    · subst h
      rw [hs] at e
      cases e
      cases hf
    · exact ⟨c, by rw [List.getElem?_set_ne h]; exact e, List.getElem?_set_ne h⟩
/-- a new object stored in a slot: the slot owns it -/
theorem SPost.storeT {H0 : Hp} (E0 : ERel K Z σ H ρ) {i : Nat} {s0 : Slot} {a : Addr} {c : Cell} (hs : ρ[i]? = some s0) (hf : free1 s0 = true) (nz : ¬ Z a) (no : ¬ Own σ ρ a) (E : ERel K (fun b => Z b ∨ b = a) σ H ρ)
    (hc : CellAt K (hid H fun b => Hd Z σ ρ b ∨ b = a) H a c) (P : EPost K Z σ H0 ρ1 H ρ) (n0 : H0 a = none) : SPost K Z σ H0 ρ1 (σ.set i (some (.ref a))) H (ρ.set i (.own false false c)) := by
  have hi : i < ρ.length := (List.getElem?_eq_some_iff.mp hs).1
  have hiσ : i < σ.length := by rw [E.len]; exact hi
  have own0 : ∀ j b, OwnAt (σ.set i (some (.ref a))) (ρ.set i (.own false false c)) j b → (i = j ∧ b = a) ∨ (i ≠ j ∧ OwnAt σ ρ j b) := fun j b h => by
    rcases own_set h with ⟨e, e2, _⟩ | h
    · cases e2; exact .inl ⟨e, rfl⟩
    · exact .inr h
  have hdd : ∀ b, Hd Z (σ.set i (some (.ref a))) (ρ.set i (.own false false c)) b → Hd Z σ ρ b ∨ b = a := fun b h => by
    rcases h with h | ⟨j, h⟩
    · exact .inl (.inl h)
    · rcases own0 j b h with ⟨_, e⟩ | ⟨_, h⟩
      · exact .inr e
      · exact .inl (.inr ⟨j, h⟩)
  have sub : Sub (hid H fun b => Hd Z σ ρ b ∨ b = a) (hid H (Hd Z (σ.set i (some (.ref a))) (ρ.set i (.own false false c)))) := hid_mono fun b o q m => ⟨q, fun z => m (hdd b z)⟩
  have subE : Sub (hid H (Hd (fun b => Z b ∨ b = a) σ ρ)) (hid H fun b => Hd Z σ ρ b ∨ b = a) := hid_mono fun b o q m => ⟨q, fun z => m (by
    rcases z with (z | z) | z
    · exact .inl (.inl z)
    · exact .inr z
    · exact .inl (.inr z))⟩
  have sub2 : Sub (hid H (Hd (fun b => Z b ∨ b = a) σ ρ)) (hid H (Hd Z (σ.set i (some (.ref a))) (ρ.set i (.own false false c)))) := fun b o q => sub b o (subE b o q)
  refine ⟨⟨by rw [List.length_set, List.length_set]; exact E.len, fun j k b h1 h2 => ?_, fun j sl e => ?_, E0.zok, fun j b io lk c' e1 e2 => ?_⟩, P.fr, P.dom, fun b ⟨j, h⟩ => ?_, fun b h => ?_, fun j io c' e => ?_, fun j lk c' e => ?_⟩
  · rcases own0 j b h1 with ⟨e1, x1⟩ | ⟨n1, o1⟩ <;> rcases own0 k b h2 with ⟨e2, x2⟩ | ⟨n2, o2⟩
    · exact e1.symm.trans e2
    · exact absurd (x1 ▸ ⟨k, o2⟩) no
    · exact absurd (x2 ▸ ⟨j, o1⟩) no
    · exact E.inj j k b o1 o2
  · rcases set_get e with ⟨rfl, rfl⟩ | ⟨ne, e⟩
    · exact ⟨_, List.getElem?_set_self hiσ, a, rfl, cell_mono sub (fun o q => q) hc⟩
    · obtain ⟨ov, k1, k2⟩ := E.slot j sl e
      refine ⟨ov, by rw [List.getElem?_set_ne ne]; exact k1, ?_⟩
      cases sl with
      | un => trivial
      | val d =>
        obtain ⟨w, q1, q2⟩ := k2
        exact ⟨w, q1, dp_mono sub2 q2⟩
      | own io lk c =>
        obtain ⟨b, q1, q2⟩ := k2
        exact ⟨b, q1, cell_mono sub2 (fun o q => q) q2⟩
  · rcases own0 j b ⟨e1, io, lk, c', e2⟩ with ⟨rfl, rfl⟩ | ⟨ne, o⟩
    · rw [List.getElem?_set_self hi] at e2
      cases e2
      exact Iff.intro (fun z => absurd z (by decide)) (fun z => absurd z nz)
    · rw [List.getElem?_set_ne ne] at e2
      exact E0.zin j b io lk c' o.1 e2
  · rcases own0 j b h with ⟨_, rfl⟩ | ⟨_, o⟩
    · exact .inr n0
    · exact .inl (P.evo.owns ⟨j, o⟩)
  · obtain ⟨j, io, c', e1, e2⟩ := h
    rcases own0 j b ⟨e1, io, false, c', e2⟩ with ⟨_, rfl⟩ | ⟨ne, o⟩
    · exact .inr n0
    · rw [List.getElem?_set_ne ne] at e2
      exact .inl (P.evo.mut ⟨j, io, c', o.1, e2⟩)
  · rcases set_get e with ⟨_, z⟩ | ⟨ne, e⟩
    · cases z
    · obtain ⟨q1, q2⟩ := P.sp.lk j io c' e
      exact ⟨q1, by rw [List.getElem?_set_ne ne]⟩
  · obtain ⟨c2, q1, q2⟩ := P.sp.io j lk c' e
    have ne : i ≠ j := by
      rintro rfl
      rw [hs] at q1
      cases q1
      cases hf
    exact ⟨c2, by rw [List.getElem?_set_ne ne]; exact q1, List.getElem?_set_ne ne⟩
end
/-! ### targets -/
abbrev Bd := D → Rho → Option Rho
def bNm (i : Nat) : Bd := fun d ρ => match ρ[i]? with
  | some s => if free1 s = true then some (ρ.set i (.val d)) else none
  | none => none
def bAll : List Bd → List D → Rho → Option Rho
  | [], [], ρ => some ρ
  | b :: bs, d :: ds, ρ => (b d ρ).bind (bAll bs ds)
  | _, _, _ => none
def bTp (bs : List Bd) : Bd := fun d ρ => match d with
  | .tuple ds => bAll bs ds ρ
  | .list ds => bAll bs ds ρ
  | _ => none
/-- but at some slots all is as it was -/
def OnlyAt (js : List Nat) (σ σ' : L2.St) (ρ ρ' : Rho) : Prop := σ'.length = σ.length ∧ ∀ j : Nat, j ∉ js → σ'[j]? = σ[j]? ∧ ρ'[j]? = ρ[j]?
def gRd (K : PySem.W.Frag) (b : Bd) (js : List Nat) : TG := fun v σ H Q => ∃ Z ρ d ρ', ERel K Z σ H ρ ∧ Dp K (hid H (Hd Z σ ρ)) v d ∧ b d ρ = some ρ' ∧ ∀ σ', SPost K Z σ H ρ σ' H ρ' → OnlyAt js σ σ' ρ ρ' → Q σ' H
def gRds (K : PySem.W.Frag) (bs : List Bd) (js : List Nat) : TGs := fun vs σ H Q => ∃ Z ρ ds ρ', ERel K Z σ H ρ ∧ DpAll K (hid H (Hd Z σ ρ)) vs ds ∧ bAll bs ds ρ = some ρ' ∧ ∀ σ', SPost K Z σ H ρ σ' H ρ' → OnlyAt js σ σ' ρ ρ' → Q σ' H
abbrev TB (X : Cx) (tg : Expr) (b : Bd) (js : List Nat) : Prop := PG X tg (gRd X.K b js)
abbrev TBs (X : Cx) (ts : List Expr) (bs : List Bd) (js : List Nat) : Prop := PGs X ts (gRds X.K bs js)
section
variable {X : Cx}
theorem pg_imp {e : Expr} {t t' : TG} (h : PG X e t) (i : ∀ v σ H Q, t' v σ H Q → t v σ H Q) : PG X e t' := ⟨fun pins s σ H v u Q I r w => h.run pins s σ H v u Q I r (i v σ H Q w)⟩
theorem pgs_imp {e : List Expr} {t t' : TGs} (h : PGs X e t) (i : ∀ v σ H Q, t' v σ H Q → t v σ H Q) : PGs X e t' := ⟨fun pins s σ H v u Q I r w => h.run pins s σ H v u Q I r (i v σ H Q w)⟩
theorem pg_or {e : Expr} {t t' : TG} (h : PG X e t) (h' : PG X e t') : PG X e (fun v σ H Q => t v σ H Q ∨ t' v σ H Q) := ⟨fun pins s σ H v u Q I r w => w.elim (fun w => h.run pins s σ H v u Q I r w) fun w => h'.run pins s σ H v u Q I r w⟩
theorem tb_nm {e : Expr} {i : Nat} (h : PG X e (gName i)) : TB X e (bNm i) [i] := pg_imp h fun v σ H Q ⟨Z, ρ, d, ρ', E, hd, hb, q⟩ => by
  unfold bNm at hb
  cases hs : ρ[i]? with
  | none => simp only [hs] at hb; cases hb
  | some s =>
    simp only [hs] at hb
    split at hb
    · rename_i hf
      cases hb
      exact q _ (SPost.store E hs hf hd) ⟨by rw [List.length_set], fun j hj => by
        have ne : i ≠ j := fun e => hj (by simp [e])
        exact ⟨List.getElem?_set_ne ne, List.getElem?_set_ne ne⟩⟩
    · cases hb
theorem tbs_nil : TBs X [] [] [] := pgs_imp pgs_nil fun vs σ H Q ⟨Z, ρ, ds, ρ', E, hd, hb, q⟩ => by
  cases ds with
  | nil => cases hb; cases hd; exact ⟨rfl, q σ (.refl E) ⟨rfl, fun _ _ => ⟨rfl, rfl⟩⟩⟩
  | cons => cases hb
theorem tbs_cons {e : Expr} {es : List Expr} {b : Bd} {bs : List Bd} {js ks : List Nat} (h1 : TB X e b js) (h2 : TBs X es bs ks) (hs : (assignEach (e :: es) X.env).map (·.2) = assign e X.env :: (assignEach es X.env).map (·.2) := by rfl) : TBs X (e :: es) (b :: bs) (js ++ ks) :=
  pgs_imp (pgs_cons h1 h2 hs) fun vs σ H Q ⟨Z, ρ, ds, ρ', E, hd, hb, q⟩ => by
    cases ds with
    | nil => cases hb
    | cons d ds =>
      cases hd with
      | cons hd1 hd2 =>
        simp only [bAll] at hb
        cases qb : b d ρ with
        | none => rw [qb] at hb; cases hb
        | some ρ1 =>
          rw [qb] at hb
          refine ⟨_, _, rfl, Z, ρ, d, ρ1, E, hd1, qb, fun σ1 P1 o1 => ?_⟩
          refine ⟨Z, ρ1, ds, ρ', P1.rel, dps_mono P1.sub hd2, hb, fun σ2 P2 o2 => q σ2 (P1.trans P2) ⟨o2.1.trans o1.1, fun j hj => ?_⟩⟩
          have h1 : j ∉ js := fun z => hj (List.mem_append_left _ z)
          have h2 : j ∉ ks := fun z => hj (List.mem_append_right _ z)
          exact ⟨(o2.2 j h2).1.trans (o1.2 j h1).1, (o2.2 j h2).2.trans (o1.2 j h1).2⟩
theorem bAll_len : ∀ {bs : List Bd} {ds : List D} {ρ ρ' : Rho}, bAll bs ds ρ = some ρ' → ds.length = bs.length
  | [], [], _, _, _ => rfl
  | [], _ :: _, _, _, h => by cases h
  | _ :: _, [], _, _, h => by cases h
  | b :: bs, d :: ds, ρ, ρ', h => by
    simp only [bAll] at h
    cases q : b d ρ with
    | none => rw [q] at h; cases h
    | some ρ1 => rw [q] at h; rw [List.length_cons, List.length_cons, bAll_len h]
theorem tb_tp {es : List Expr} {k n : Nat} {bs : List Bd} {js : List Nat} {pos : Pos} (hc : X.calm = true) (h : TBs X es bs js) (hl : bs.length = n) (hn : (assignEach es X.env).length = n := by rfl) (hst : (assignEach es X.env).findIdx? (·.1) = none := by rfl) : TB X (.Tuple es k pos) (bTp bs) js :=
  pg_imp (pg_or (pg_tup hc h hn hst) (pg_lst hc h hn hst)) fun v σ H Q ⟨Z, ρ, d, ρ', E, hd, hb, q⟩ => by
    unfold bTp at hb
    split at hb
    · obtain ⟨a, xs, rfl, h1, h2⟩ := dvTup (dv_of hid_sub hd)
      exact .inl ⟨a, xs, rfl, sqT_mono hid_sub h1, by rw [dps_len h2, bAll_len hb, hl], Z, ρ, _, ρ', E, h2, hb, q⟩
    · cases hd with
      | lst h1 h2 => exact .inr ⟨_, _, rfl, sqL_mono hid_sub h1, by rw [dps_len h2, bAll_len hb, hl], Z, ρ, _, ρ', E, h2, hb, q⟩
    · cases hb
end
end Ev

set_option Elab.async false
set_option linter.all false
set_option maxRecDepth 100000
set_option maxHeartbeats 4000000
set_option autoImplicit false
/-! enumerate over a tuple -/
namespace PySem
open Sem (wp)
open AutoSeq1 (wpAny_loadPart')
theorem meets_enumB1 {v : Value} {o : Obj} {H : Heap → Prop} (B : Begins v o H) :
    Meets (Builtin.«enumerate.__new__» ⟨[.type "enumerate", v], []⟩) (fun _ R s => H s.heap ∧
      R (.ok (.ret (.ref (s.heap.push o).objs.size))) { s with heap := (s.heap.push o).push { cls := .type "enumerate", data := .fields #[.none, .bool false, .ref s.heap.objs.size, rawInt 0, .none, .none] } }) :=
  .of_wp fun prog w A R s h => by
    obtain ⟨hp, g, d, tk, os⟩ := s
    obtain ⟨h1, h⟩ := h
    have hsub := sub_enumerate
    have q1 : ∀ {A' : Around} {E : Value → Shared → Prop} {Q : Value → Shared → Prop}, Q (.ref hp.objs.size) ⟨hp.push o, g, d, tk, os⟩ → wpAny (model prog w) A' (pyIter v) Q E ⟨hp, g, d, tk, os⟩ :=
      fun q => B.iter prog w _ _ ⟨hp, g, d, tk, os⟩ _ h1 q
    wp_walk using q1
    refine wpAny_stack_any fun st => wpAny_pure ?_
    split
    · rename_i c _ _ _ _ _
      cases (c == Value.type "enumerate") <;> (wp_walk using q1; exact ⟨_, rfl, h⟩)
    · wp_walk using q1
      exact ⟨_, rfl, h⟩
theorem call_enumB1 {prog : Program} {w : World} {A : Around} {E : Value → Shared → Prop} {s : Shared} {v : Value} {o : Obj} {H : Heap → Prop} {Q : Value → Shared → Prop} (B : Begins v o H) (h1 : H s.heap)
    (h : ∀ h', IsEnum h' (s.heap.objs.size + 1) s.heap.objs.size 0 .none → h'.get? s.heap.objs.size = some o → h'.objs.size = s.heap.objs.size + 2 →
      (∀ b o, s.heap.get? b = some o → h'.get? b = some o) → Q (.ref (s.heap.objs.size + 1)) { s with heap := h' }) :
    wpAny (model prog w) A (call (.type "enumerate") [v]) Q E s := by
  refine callType_new F.called_enumerate (by decide) (F.typeCall_enumerate_1 _) (F.newCall_enumerate_1 _) (fun obj => F.args_object_init_2 obj _) F.entry_enumerate_new (meets_enumB1 B) ⟨h1, ?_⟩
  have hz : (s.heap.push o).objs.size = s.heap.objs.size + 1 := Heap.size_push ..
  show _ ∧ _
  rw [hz]
  have he := Heap.get?_push_size (s.heap.push o) (o := { cls := .type "enumerate", data := .fields #[.none, .bool false, .ref s.heap.objs.size, rawInt 0, .none, .none] }) rfl
  rw [hz] at he
  exact ⟨⟨_, he, rfl⟩, h _ he (Heap.get?_push_of_some _ (Heap.get?_push_size _ B.free)) (by rw [Heap.size_push, hz]) fun b o x => Heap.get?_push_of_some _ (Heap.get?_push_of_some _ x)⟩
theorem wpAny_pyNext_enum_endT {prog : Program} {w : World} {A : Around} {E : Value → Shared → Prop} {s : Shared} {e it l : Addr} {i : Nat} {items : Array Value} {old : Value} {Q : Option Value → Shared → Prop} (hh : A.handled = none)
    (he : IsEnum s.heap e it i old) (hit : s.heap.IsTupleIter it l i) (hl : s.heap.IsTuple l items) (hx : items[i]? = none)
    (hQ : ∀ h', Heap.ExtBut it s.heap h' → Q none { s with heap := h' }) : wpAny (model prog w) A (pyNext (.ref e)) Q E s := by
  have hT : s.TypeIs (.ref e) "enumerate" := ⟨_, he, rfl⟩
  unfold pyNext
  refine wpAny_bind (wpAny_attempt (wpAny_callSpecial?_slot (name := Str.ofString "__next__") hT F.slot_enumerate_next
    (wpAny_call_entry F.slot_enumerate_next hT F.entry_enumerate_next ?_ (F.args_enumerate_next_1 _))))
  show wpAny _ _ (field (.ref e) 2 >>= _) _ _ _
  refine wpAny_bind (wpAny_field he rfl (x := .ref it) rfl ?_)
  refine wpAny_bind (wpAny_nextOf_tuple_end hh hit hl hx fun h' x he' hx' => ?_)
  obtain ⟨o, ho, hc⟩ := hx'
  refine wpAny_bind (wpAny_isInstance (T := "StopIteration") (b := true) ⟨o, ho, hc⟩ isSubtype_stop ?_)
  exact wpAny_pure (hQ _ he')
end PySem
namespace L2
open PySem PySem.Spec PyProof.Rows
/-- the tuple at a, each item in a new pair -/
def IteT (K : PySem.W.Frag) (a : Addr) : It :=
  ⟨fun i H => ∃ (xs : List V) (x : V), SqT K H a xs ∧ xs[i]? = some x, fun i H v H' => ∃ T x, v = .ref T ∧ H T = none ∧ H' = upd H T (.tup [.int (i : Nat), x]) ∧ ∀ xs, SqT K H a xs → xs[i]? = some x, fun i H => ∃ xs : List V, SqT K H a xs ∧ xs.length ≤ i⟩
theorem turn_enumT {P : Program} {w : World} {K : PySem.W.Frag} {elts : List Expr} {kk : Nat} {tpos : Pos} (a e it : Addr) :
    Turn P w K (.Tuple elts kk tpos) (IteT K a) [e, it] e (fun i h => (∃ old, IsEnum h e it ((i : Nat) : Int) old) ∧ h.IsTupleIter it a i ∧ e ≠ it) where
  mem := by simp
  obj := fun i h st b hb => by
    obtain ⟨⟨old, he⟩, ⟨o, ho, hc, hd⟩, _⟩ := st
    have e' : b = e ∨ b = it := by simpa using hb
    rcases e' with z | z
    · rw [z]; exact ⟨_, he, fun v q => nomatch q⟩
    · rw [z]; exact ⟨o, ho, fun v q => by rw [hd] at q; cases q⟩
  keep := fun i h h' st k => let ⟨⟨old, he⟩, hi, hne⟩ := st; ⟨⟨old, k e (by simp) _ he⟩, hi.at fun o q => k it (by simp) o q, hne⟩
  item := by
    intro X hP hw hK hc i pins s σ H E I hf st hg
    subst hP hw hK
    obtain ⟨⟨old, he⟩, hit, hne⟩ := st
    obtain ⟨xs, x, hq, hx⟩ := hg
    obtain ⟨its, rv, p, hz⟩ := I.tuple hq
    obtain ⟨u, hu, ru⟩ := rv.get hx
    have p' : s.heap.IsTuple a its.toArray := p
    have hai : a ≠ it := fun z => by
      obtain ⟨o1, q1, c1, _⟩ := p'
      obtain ⟨o2, q2, c2, _⟩ := hit
      rw [z, q2] at q1
      cases q1
      rw [c2] at c1
      exact absurd c1 (by decide)
    have hea : e ∉ [it, a] := fun z => by
      rcases (by simpa using z : e = it ∨ e = a) with z | z
      · exact hne z
      · obtain ⟨o1, q1, c1, _⟩ := p'
        rw [← z, he] at q1
        cases q1
        exact absurd (show Value.type "enumerate" = Value.type "tuple" from c1) (by decide)
    have D := Draws.tuple (prog := X.prog) (w := X.w) (A := X.A.in1) (show X.A.in1.handled = none from I.ok.hd hc) it a hai its.toArray
    have hel : e < s.heap.objs.size := Heap.lt_size he
    have hil : it < s.heap.objs.size := by obtain ⟨_, q, _⟩ := hit; exact Heap.lt_size q
    have hlt : i < its.toArray.size := by
      have := rv.length
      have h2 : i < xs.length := (List.getElem?_eq_some_iff.mp hx).1
      simp
      omega
    refine wpAny_pyNext_enum_itemD D he ⟨hit, p'⟩ hlt hne hea fun x' h' tk hP ho hs' hT hsz hk => ?_
    obtain rfl : u = x' := by
      have := hP
      rw [show its.toArray[i]? = some u by simpa using hu] at this
      exact Option.some.inj this
    refine ⟨_, rfl, wpAny_letOwnedTupleGo_enum (s := { s with heap := h', toks := tk + 1 }) ho fun h'' he' sb => ?_⟩
    have hT2 : h''.get? s.heap.objs.size = some { cls := .type "tuple", data := .seq #[.int i tk, u] } := (sb.2 _ (Nat.ne_of_gt hel)).trans hT
    have new : ObjOk X.prog X.w (upd H s.heap.objs.size (.tup [.int (i : Nat), x])) h'' s.heap.objs.size (.tup [.int (i : Nat), x]) :=
      ⟨by show 2 ≤ sizeLine; decide, [.int i tk, u], .cons ⟨_, rfl⟩ (.cons ru .nil), ⟨_, hT2, rfl, _, rfl⟩⟩
    have I1 : Inv X pins σ (upd H s.heap.objs.size (.tup [.int (i : Nat), x])) { s with heap := h'', toks := tk + 1 } :=
      I.turnedNew (ch := [e, it]) (fun b ob hb q => (sb.2 b (fun z => hb (by simp [z]))).trans (hk b ob (fun z => hb (by simp [z])) (fun z => hb (by simp [z])) q)) hf (Nat.le_refl _) new
    refine ⟨.ref s.heap.objs.size, _, I1, rfl, ⟨_, x, rfl, I.hok.fresh (Nat.le_refl _), rfl, fun ys hy => by rw [I.tuple_inj hy hq]; exact hx⟩, ⟨⟨u, ?_⟩, hs'.1.at fun o q => (sb.2 it (Ne.symm hne)).trans q, hne⟩, fun b hb => ?_⟩
    · have e1 : ((i + 1 : Nat) : Int) = (i : Int) + 1 := by omega
      rw [e1]
      exact he'
    · have hb' : b < s.heap.objs.size := by
        rcases (by simpa using hb : b = e ∨ b = it) with z | z
        · rw [z]; exact hel
        · rw [z]; exact hil
      rw [upd_ne (Nat.ne_of_lt hb')]
      exact (hf b hb).1
  done := by
    intro X hP hw hK hc i pins s σ H E I hf st hg
    subst hP hw hK
    obtain ⟨⟨old, he⟩, hit, hne⟩ := st
    obtain ⟨xs, hq, hx⟩ := hg
    obtain ⟨its, rv, p, hz⟩ := I.tuple hq
    obtain ⟨f0, f1, f2, f3, f4, f5⟩ := hf it (by simp)
    have hl := rv.length
    have p' : s.heap.IsTuple a its.toArray := p
    refine wpAny_pyNext_enum_endT (I.ok.hd hc) he hit p' (by simp; omega) fun h' eb => ⟨rfl, I.turned (t' := s.toks) (fun b o hb q => eb b o hb q) f0 f1 f3 f4 f5⟩
  self := fun A i s Q E st h => let ⟨⟨_, he⟩, _⟩ := st; wpAny_pyIter_enum he h
def iEnumA (K : PySem.W.Frag) (ta : TA) : TI := fun σ H R => ta σ H fun vs H1 => ∃ a xs, vs = [.ref a] ∧ ((SqL K H1 a xs ∧ R (Ite K a) H1) ∨ (SqT K H1 a xs ∧ R (IteT K a) H1))
theorem pi_enumA {X : Cx} {e : Expr} {ta : TA} {p pos tpos : Pos} {elts : List Expr} {kk : Nat} (hg : Gl X "enumerate") (hm : X.mg "enumerate" = none) (ha : PA X [e] ta) (hs : starEach [e] X.env = [(false, eval e X.env)] := by rfl) :
    PI X (.Tuple elts kk tpos) (.Call (.Name "enumerate" p) [e] [] pos) (iEnumA X.K ta) := by
  refine ⟨fun pins s σ H R I h => ?_⟩
  refine Call_ (ld_blt I hg hm boot_enumerate (PyProof.Rows.callWith_type1 (thn (ha.run pos pins s σ H _ I h) fun us s1 ⟨vs, H1, I1, r1, q1⟩ => ?_) hs rfl))
  obtain ⟨a, xs, ex, q⟩ := q1
  subst ex
  cases r1 with
  | cons r rr =>
    cases rr
    cases r
    have fr : ∀ b ∈ [s1.heap.objs.size + 1, s1.heap.objs.size], FpOk X pins H1 b := fun b hb => by
      have hle : s1.heap.objs.size ≤ b := by
        rcases (by simpa using hb : b = s1.heap.objs.size + 1 ∨ b = s1.heap.objs.size) with z | z
        · rw [z]; exact Nat.le_add_right _ _
        · rw [z]; exact Nat.le_refl _
      exact I1.fpOk hle (I1.hok.fresh hle)
    rcases q with ⟨hq, q⟩ | ⟨hq, q⟩
    · obtain ⟨its, rv, p', hz⟩ := I1.list hq
      refine call_enumerate_list p'.isList fun h' he hit hsz hk => wpAny_pyIter_enum he ?_
      have I2 : Inv X pins σ H1 { s1 with heap := h' } := I1.kept (t' := s1.toks) hk
      exact ⟨s1.heap.objs.size + 1, [s1.heap.objs.size + 1, s1.heap.objs.size], _, _, H1, rfl, I2, turn_enum a (s1.heap.objs.size + 1) s1.heap.objs.size, ⟨⟨.none, he⟩, hit, Nat.succ_ne_self _⟩, fr, q⟩
    · obtain ⟨its, rv, p', hz⟩ := I1.tuple hq
      refine call_enumB1 (begins_tuple a its.toArray) (show s1.heap.IsTuple a its.toArray from p') fun h' he hit hsz hk => wpAny_pyIter_enum he ?_
      have I2 : Inv X pins σ H1 { s1 with heap := h' } := I1.kept (t' := s1.toks) hk
      exact ⟨s1.heap.objs.size + 1, [s1.heap.objs.size + 1, s1.heap.objs.size], _, _, H1, rfl, I2, turn_enumT a (s1.heap.objs.size + 1) s1.heap.objs.size, ⟨⟨.none, he⟩, ⟨_, hit, rfl, rfl⟩, Nat.succ_ne_self _⟩, fr, q⟩
theorem walk_enumT {K : PySem.W.Frag} {a : Addr} {xs : List V} : Walk (IteT K a) xs.length (fun H => SqT K H a xs) (YPair (fun i => some (.int (i : Nat))) (fun i => xs[i]?)) := by
  refine ⟨fun i _ hi q => ⟨xs, xs[i], q, by simp [hi]⟩, fun _ q => ⟨xs, q, Nat.le_refl _⟩, fun i H v H' _ q y => ?_⟩
  obtain ⟨T, x, h1, h2, h3, h4⟩ := y
  exact ⟨T, .int (i : Nat), x, h1, h2, h3, rfl, h4 xs q⟩
end L2

set_option Elab.async false
set_option linter.all false
set_option maxRecDepth 100000
set_option maxHeartbeats 4000000
set_option autoImplicit false
/-! what is walked; locks -/
namespace Ev
open PySem L2 PySem.Spec PyProof.Rows
/-! ### some slots changed -/
def onS (f : Slot → Slot) (js : List Nat) (ρ : Rho) : Rho := ρ.mapIdx fun i s => if js.contains i = true then f s else s
theorem on_get {f : Slot → Slot} {js : List Nat} {ρ : Rho} {i : Nat} : (onS f js ρ)[i]? = (ρ[i]?).map fun s => if js.contains i = true then f s else s := by
  unfold onS
  rw [List.getElem?_mapIdx]
theorem on_len {f : Slot → Slot} {js : List Nat} {ρ : Rho} : (onS f js ρ).length = ρ.length := by unfold onS; rw [List.length_mapIdx]
theorem on_inv {f : Slot → Slot} {js : List Nat} {ρ : Rho} {i : Nat} {s : Slot} (h : (onS f js ρ)[i]? = some s) : ∃ t, ρ[i]? = some t ∧ ((js.contains i = true ∧ s = f t) ∨ (js.contains i = false ∧ s = t)) := by
  rw [on_get] at h
  cases q : ρ[i]? with
  | none => rw [q] at h; cases h
  | some t =>
    rw [q] at h
    refine ⟨t, rfl, ?_⟩
    have h := Option.some.inj h
    cases c : js.contains i with
    | true => simp only [c, if_true] at h; exact .inl ⟨rfl, h.symm⟩
    | false => simp only [c, Bool.false_eq_true, if_false] at h; exact .inr ⟨rfl, h.symm⟩
def lk1 : Slot → Slot
  | .own io false c => .own io true c
  | s => s
def ul1 : Slot → Slot
  | .own io true c => .own io false c
  | s => s
/-- alike but for their locks -/
def Alike (ρ ρ' : Rho) : Prop := ρ.length = ρ'.length ∧ (∀ (i : Nat) s, ρ[i]? = some s → (∃ io lk lk' c, s = .own io lk c ∧ ρ'[i]? = some (.own io lk' c)) ∨ ρ'[i]? = some s)
theorem alike_own {σ : L2.St} {ρ ρ' : Rho} (A : Alike ρ ρ') {i : Nat} {a : Addr} (h : OwnAt σ ρ i a) : OwnAt σ ρ' i a := by
  obtain ⟨h1, io, lk, c, h2⟩ := h
  rcases A.2 i _ h2 with ⟨io', lk', lk2, c', e, h3⟩ | h3
  · exact ⟨h1, _, _, _, h3⟩
  · exact ⟨h1, _, _, _, h3⟩
theorem alike_symm {ρ ρ' : Rho} (A : Alike ρ ρ') : Alike ρ' ρ := ⟨A.1.symm, fun i s e => by
  have hl : i < ρ.length := by rw [A.1]; exact (List.getElem?_eq_some_iff.mp e).1
  rcases A.2 i _ (List.getElem?_eq_getElem hl) with ⟨io, lk, lk', c, h1, h2⟩ | h2
  · rw [e] at h2
    cases h2
    exact .inl ⟨io, lk', lk, c, rfl, by rw [List.getElem?_eq_getElem hl, h1]⟩
  · rw [e] at h2
    cases h2
    exact .inr (List.getElem?_eq_getElem hl)⟩
theorem alike_lk {js : List Nat} {ρ : Rho} : Alike ρ (onS lk1 js ρ) := ⟨on_len.symm, fun i s e => by
  rw [on_get, e]
  simp only [Option.map_some]
  cases c : js.contains i with
  | false => exact .inr rfl
  | true =>
    simp only [if_true]
    cases s with
    | un => exact .inr rfl
    | val d => exact .inr rfl
    | own io lk c => cases lk <;> exact .inl ⟨io, _, true, c, rfl, rfl⟩⟩
theorem alike_ul {js : List Nat} {ρ : Rho} : Alike ρ (onS ul1 js ρ) := ⟨on_len.symm, fun i s e => by
  rw [on_get, e]
  simp only [Option.map_some]
  cases c : js.contains i with
  | false => exact .inr rfl
  | true =>
    simp only [if_true]
    cases s with
    | un => exact .inr rfl
    | val d => exact .inr rfl
    | own io lk c => cases lk <;> exact .inl ⟨io, _, false, c, rfl, rfl⟩⟩
section
variable {K : PySem.W.Frag} {Z : Addr → Prop} {σ σ' : L2.St} {H H' H0 : Hp} {ρ ρ' ρ1 : Rho} {v : V}
theorem alike_hd (A : Alike ρ ρ') {a : Addr} : Hd Z σ ρ a ↔ Hd Z σ ρ' a := ⟨fun h => h.elim .inl fun ⟨i, h⟩ => .inr ⟨i, alike_own A h⟩, fun h => h.elim .inl fun ⟨i, h⟩ => .inr ⟨i, alike_own (alike_symm A) h⟩⟩
theorem alike_sub (A : Alike ρ ρ') : Sub (hid H (Hd Z σ ρ)) (hid H (Hd Z σ ρ')) := hid_mono fun b o e n => ⟨e, fun z => n ((alike_hd A).mpr z)⟩
theorem ERel.alike (E : ERel K Z σ H ρ) (A : Alike ρ ρ') : ERel K Z σ H ρ' := by
  have B := alike_symm A
  refine ⟨E.len.trans A.1, fun i j a h1 h2 => E.inj i j a (alike_own B h1) (alike_own B h2), fun i sl e => ?_, E.zok, fun i a io lk c e1 e2 => ?_⟩
  · rcases B.2 i sl e with ⟨io, lk, lk', c, rfl, h2⟩ | h2
    · obtain ⟨ov, k1, a, k2, k3⟩ := E.slot i _ h2
      exact ⟨ov, k1, a, k2, cell_mono (alike_sub A) (fun o q => q) k3⟩
    · obtain ⟨ov, k1, k2⟩ := E.slot i _ h2
      refine ⟨ov, k1, ?_⟩
      cases sl with
      | un => trivial
      | val d => obtain ⟨w, q1, q2⟩ := k2; exact ⟨w, q1, dp_mono (alike_sub A) q2⟩
      | own io lk c => obtain ⟨a, q1, q2⟩ := k2; exact ⟨a, q1, cell_mono (alike_sub A) (fun o q => q) q2⟩
  · rcases B.2 i _ e2 with ⟨io', lk', lk2, c', e, h2⟩ | h2
    · cases e
      exact E.zin i a _ _ _ e1 h2
    · exact E.zin i a _ _ _ e1 h2
/-- what the walk locks -/
def Locks (js : List Nat) (ρ : Rho) : Prop := ∀ j, js.contains j = true → ∃ io c, ρ[j]? = some (.own io false c)
theorem locks_nil : Locks [] ρ := fun j z => by cases z
theorem lock_mut {js : List Nat} {a : Addr} (h : Mut σ (onS lk1 js ρ) a) : Mut σ ρ a := by
  obtain ⟨i, io, c, h1, h2⟩ := h
  obtain ⟨t, h3, ⟨h4, h5⟩ | ⟨h4, h5⟩⟩ := on_inv h2
  · cases t with
    | un => cases h5
    | val d => cases h5
    | own io lk c => cases lk <;> cases h5
  · exact ⟨i, io, c, h1, h5 ▸ h3⟩
theorem lock_mut' {js : List Nat} {a : Addr} (h : Mut σ (onS lk1 js ρ) a) : ∃ (i : Nat) (io : Bool) (c : Cell), js.contains i = false ∧ σ[i]? = some (some (.ref a)) ∧ ρ[i]? = some (.own io false c) := by
  obtain ⟨i, io, c, h1, h2⟩ := h
  obtain ⟨t, h3, ⟨h4, h5⟩ | ⟨h4, h5⟩⟩ := on_inv h2
  · cases t with
    | un => cases h5
    | val d => cases h5
    | own io lk c => cases lk <;> cases h5
  · exact ⟨i, io, c, h4, h1, h5 ▸ h3⟩
theorem mut_lock {js : List Nat} {a : Addr} {i : Nat} {io : Bool} {c : Cell} (hc : js.contains i = false) (h1 : σ[i]? = some (some (.ref a))) (h2 : ρ[i]? = some (.own io false c)) : Mut σ (onS lk1 js ρ) a := by
  refine ⟨i, io, c, h1, ?_⟩
  rw [on_get, h2, hc]
  rfl
/-- behind the loop the locks are taken off -/
theorem SPost.unlock {js : List Nat} (l : Locks js ρ) (P : SPost K Z σ H (onS lk1 js ρ) σ' H' ρ') : SPost K Z σ H ρ σ' H' (onS ul1 js ρ') := by
  have own' : ∀ a, Own σ' (onS ul1 js ρ') a → Own σ' ρ' a := fun a ⟨i, h⟩ => ⟨i, alike_own (alike_symm alike_ul) h⟩
  refine ⟨P.rel.alike alike_ul, fun b o e n => P.fr b o e fun z => n (lock_mut z), P.dom, fun a h => ?_, fun a h => ?_, fun i io c e => ?_, fun i lk c e => ?_⟩
  · rcases P.own a (own' a h) with ⟨i, z⟩ | z
    · exact .inl ⟨i, alike_own (alike_symm alike_lk) z⟩
    · exact .inr z
  · obtain ⟨i, io, c, h1, h2⟩ := h
    obtain ⟨t, h3, ⟨h4, h5⟩ | ⟨h4, h5⟩⟩ := on_inv h2
    · obtain ⟨io0, c0, h6⟩ := l i h4
      cases t with
      | un => cases h5
      | val d => cases h5
      | own io1 lk1' c1 =>
        cases lk1' with
        | true =>
          cases h5
          obtain ⟨h7, h8⟩ := P.lk i _ _ h3
          rw [h8] at h1
          exact .inl ⟨i, io0, c0, h1, h6⟩
        | false =>
          rcases P.mt a ⟨i, io1, c1, h1, h3⟩ with z | z
          · exact .inl (lock_mut z)
          · exact .inr z
    · rcases P.mt a ⟨i, io, c, h1, h5 ▸ h3⟩ with z | z
      · exact .inl (lock_mut z)
      · exact .inr z
  · obtain ⟨t, h3, ⟨h4, h5⟩ | ⟨h4, h5⟩⟩ := on_inv e
    · cases t with
      | un => cases h5
      | val d => cases h5
      | own io1 lk1' c1 => cases lk1' <;> cases h5
    · obtain ⟨h6, h7⟩ := P.lk i io c (h5 ▸ h3)
      obtain ⟨t2, h8, ⟨h9, _⟩ | ⟨_, h10⟩⟩ := on_inv h6
      · rw [h4] at h9; cases h9
      · exact ⟨h10 ▸ h8, h7⟩
  · cases q : js.contains i with
    | false =>
      obtain ⟨c', h1, h2⟩ := P.io i lk c (by rw [on_get, e, q]; rfl)
      exact ⟨c', by rw [on_get, h1, q]; rfl, h2⟩
    | true =>
      obtain ⟨io0, c0, h6⟩ := l i q
      rw [e] at h6
      cases h6
      obtain ⟨c', h1, h2⟩ := P.io i true c (by rw [on_get, e, q]; rfl)
      exact ⟨c', by rw [on_get, h1, q]; rfl, h2⟩
/-! ### walks -/
structure WalkOk (K : PySem.W.Frag) (J : It) (ds : List D) (A B : Hp) : Prop where
  goes : ∀ i H, i < ds.length → Sub A H → J.go i H
  stops : ∀ H, Sub A H → J.stop ds.length H
  yields : ∀ i x H H' B', i < ds.length → Sub A H → Sub B B' → Sub B' H → J.yld i H x H' → Same H H' ∧ ∃ d, ds[i]? = some d ∧ Dp K (Hx B' H H') x d
theorem wk_of {J : It} {n : Nat} {G : Hp → Prop} {Y : Nat → Hp → V → Hp → Prop} {ds : List D} {A B : Hp} (w : Walk J n G Y) (hn : n = ds.length) (hG : ∀ H, Sub A H → G H)
    (hy : ∀ i x H H' B', i < ds.length → Sub B B' → Sub B' H → Y i H x H' → Same H H' ∧ ∃ d, ds[i]? = some d ∧ Dp K (Hx B' H H') x d) : WalkOk K J ds A B := by
  subst hn
  exact ⟨fun i H hi s => w.goes i H hi (hG H s), fun H s => w.stops H (hG H s), fun i x H H' B' hi s s1 s2 y => hy i x H H' B' hi s1 s2 (w.yields i H x H' hi (hG H s) y)⟩
theorem wk_list {A B : Hp} {a : Addr} {vs : List V} {ds : List D} (h : SqL K A a vs) (hd : DpAll K B vs ds) : WalkOk K (Itl K a) ds A B :=
  wk_of walk_list (dps_len hd) (fun H s => sqL_mono s h) fun i x H H' B' hi s1 s2 ⟨e, hx⟩ => by
    subst e
    obtain ⟨d, k1, k2⟩ := dps_get hd hx
    exact ⟨Same.refl _, d, k1, dp_mono (hx_old s2) (dp_mono s1 k2)⟩
theorem wk_tup {A B : Hp} {a : Addr} {vs : List V} {ds : List D} (h : SqT K A a vs) (hd : DpAll K B vs ds) : WalkOk K (Itt K a) ds A B :=
  wk_of walk_tup (dps_len hd) (fun H s => sqT_mono s h) fun i x H H' B' hi s1 s2 ⟨e, hx⟩ => by
    subst e
    obtain ⟨d, k1, k2⟩ := dps_get hd hx
    exact ⟨Same.refl _, d, k1, dp_mono (hx_old s2) (dp_mono s1 k2)⟩
theorem wk_pair {J : It} {n : Nat} {G : Hp → Prop} {A B : Hp} {f g : Nat → Option V} {ds : List D} (w : Walk J n G (YPair f g)) (hn : n = ds.length) (hG : ∀ H, Sub A H → G H)
    (h : ∀ i x y, i < ds.length → f i = some x → g i = some y → ∃ d e, ds[i]? = some (.tuple [d, e]) ∧ Dp K B x d ∧ Dp K B y e) : WalkOk K J ds A B :=
  wk_of w hn hG fun i x H H' B' hi s1 s2 ⟨T, x1, y1, e1, n1, e2, k1, k2⟩ => by
    subst e1 e2
    obtain ⟨d, e, q1, q2, q3⟩ := h i x1 y1 hi k1 k2
    refine ⟨same_upd n1, _, q1, .tup (SqT.of (hx_new n1 upd_same)) (dps_mono (hx_old s2) (dps_mono s1 (.cons q2 (.cons q3 .nil))))⟩
structure Src where
  items : List D
  js : List Nat
abbrev tI (K : PySem.W.Frag) : Pst Src It := fun Z σ H H' ρ' J s => Locks s.js ρ' ∧ WalkOk K J s.items (hid H' (Mut σ (onS lk1 s.js ρ'))) (hid H' (Hd Z σ ρ'))
/-- what is walked is the mirror f -/
abbrev EI (X : Cx) (W : WX) (tg e : Expr) (f : M Src) : Prop := PI X tg e (rdG X.K X.mg W (tI X.K) f)
theorem sub_mut {js : List Nat} : Sub (hid H (Hd Z σ ρ)) (hid H (Mut σ (onS lk1 js ρ))) := hid_mono fun b o e n => ⟨e, fun z => n (.inr (lock_mut z).own)⟩
/-- list (true) or tuple, its items, what is to be locked -/
def seqD : D → Option (Bool × List D)
  | .list ds => some (true, ds)
  | .tuple ds => some (false, ds)
  | _ => none
def seqOf (ρ : Rho) : RV → Option (Bool × List D × List Nat)
  | .val d => (seqD d).map fun (b, ds) => (b, ds, [])
  | .bor i => match ρ[i]? with
    | some (.val d) => (seqD d).map fun (b, ds) => (b, ds, [])
    | some (.own _ true (.lst ds)) => some (true, ds, [])
    | some (.own _ false (.lst ds)) => some (true, ds, [i])
    | _ => none
  | .tmp _ => none
def SqX (K : PySem.W.Frag) (b : Bool) (H : Hp) (a : Addr) (vs : List V) : Prop := if b = true then SqL K H a vs else SqT K H a vs
theorem sqx_mono {b : Bool} {G H : Hp} {a : Addr} {vs : List V} (s : Sub G H) (h : SqX K b G a vs) : SqX K b H a vs := by
  cases b
  · exact sqT_mono s h
  · exact sqL_mono s h
theorem seqD_ok {G : Hp} {d : D} {b : Bool} {ds : List D} (h : Dp K G v d) (e : seqD d = some (b, ds)) : ∃ a vs, v = .ref a ∧ SqX K b G a vs ∧ DpAll K G vs ds := by
  cases h with
  | lst h1 h2 => cases e; exact ⟨_, _, rfl, h1, h2⟩
  | tup h1 h2 => cases e; exact ⟨_, _, rfl, h1, h2⟩
  | non | bl | int | str => cases e
theorem cont_one {i j : Nat} : [i].contains j = true ↔ j = i := by simp [List.contains_cons]
theorem seq_ok (E : ERel K Z σ H ρ) {rv : RV} (h : RVOk K Z σ H0 H ρ v rv) {b : Bool} {ds : List D} {js : List Nat} (e : seqOf ρ rv = some (b, ds, js)) :
    ∃ a vs, v = .ref a ∧ SqX K b (hid H (Mut σ (onS lk1 js ρ))) a vs ∧ DpAll K (hid H (Hd Z σ ρ)) vs ds ∧ Locks js ρ := by
  have dat : ∀ {d : D}, Dp K (hid H (Hd Z σ ρ)) v d → ((seqD d).map fun (b, ds) => (b, ds, ([] : List Nat))) = some (b, ds, js) → ∃ a vs, v = .ref a ∧ SqX K b (hid H (Mut σ (onS lk1 js ρ))) a vs ∧ DpAll K (hid H (Hd Z σ ρ)) vs ds ∧ Locks js ρ := fun {d} hd e => by
    cases q : seqD d with
    | none => rw [q] at e; cases e
    | some p =>
      obtain ⟨b', ds'⟩ := p
      rw [q] at e
      cases e
      obtain ⟨a, vs, e1, h1, h2⟩ := seqD_ok hd q
      exact ⟨a, vs, e1, sqx_mono sub_mut h1, h2, fun j z => by cases z⟩
  cases rv with
  | val d => exact dat h e
  | tmp c => cases e
  | bor i =>
    obtain ⟨h1, sl, h2, h3⟩ := h
    obtain ⟨ov, k1, k2⟩ := E.slot i sl h2
    rw [h1] at k1
    cases k1
    simp only [seqOf, h2] at e
    cases sl with
    | un => exact absurd rfl h3
    | val d =>
      obtain ⟨w, q1, q2⟩ := k2
      cases q1
      exact dat q2 e
    | own io lk c =>
      obtain ⟨a, q1, q2⟩ := k2
      cases q1
      cases c with
      | dic kvs => cases lk <;> cases e
      | lst ds' =>
        obtain ⟨vs, q2, q3⟩ := q2
        cases lk with
        | true =>
          cases e
          refine ⟨a, vs, rfl, SqL.of (hid_iff.mpr ⟨q2, fun z => ?_⟩), q3, fun j z => by cases z⟩
          obtain ⟨j, io', c', h5, h6⟩ := lock_mut z
          have := E.inj i j a ⟨h1, _, _, _, h2⟩ ⟨h5, _, _, _, h6⟩
          subst this
          rw [h2] at h6
          cases h6
        | false =>
          cases e
          refine ⟨a, vs, rfl, SqL.of (hid_iff.mpr ⟨q2, fun z => ?_⟩), q3, fun j z => ?_⟩
          · obtain ⟨j, io', c', h4, h5, h6⟩ := lock_mut' z
            have := E.inj i j a ⟨h1, _, _, _, h2⟩ ⟨h5, _, _, _, h6⟩
            subst this
            rw [cont_one.mpr rfl] at h4
            cases h4
          · rw [cont_one.mp z]
            exact ⟨_, _, h2⟩
end
section
variable {X : Cx} {W : WX} {tg : Expr}
theorem pi_imp {e : Expr} {t t' : TI} (h : PI X tg e t) (i : ∀ σ H Q, t' σ H Q → t σ H Q) : PI X tg e t' := ⟨fun pins s σ H R I w => h.run pins s σ H R I (i σ H R w)⟩
/-- list or tuple, as it comes -/
theorem pi_seq {l : Expr} {tl : TE} (hl : PE X l tl) : PI X tg l (fun σ H R => tl σ H fun x H1 => ∃ a, x = .ref a ∧ (((∃ xs, SqL X.K H1 a xs) ∧ R (Itl X.K a) H1) ∨ ((∃ xs, SqT X.K H1 a xs) ∧ R (Itt X.K a) H1))) := by
  refine ⟨fun pins s σ H R I h => ?_⟩
  refine thn (hl.run pins s σ H _ I h) fun v s1 ⟨x, H1, I1, r1, q1⟩ => ?_
  obtain ⟨a, e, q⟩ := q1
  subst e
  have fr : ∀ b ∈ [s1.heap.objs.size], FpOk X pins H1 b := fun b hb => by
    obtain rfl : b = s1.heap.objs.size := by simpa using hb
    exact I1.fpOk (Nat.le_refl _) (I1.hok.fresh (Nat.le_refl _))
  cases r1
  rcases q with ⟨⟨xs, hq⟩, q⟩ | ⟨⟨xs, hq⟩, q⟩
  · obtain ⟨its, rv, p, hz⟩ := I1.list hq
    refine wpAny_pyIter_list p.isList ?_
    exact ⟨_, _, _, _, H1, rfl, I1.kept (t' := s1.toks) fun b o e => Heap.get?_push_of_some _ e, turn_list a _, ⟨_, Heap.get?_push_size _ rfl, rfl, rfl⟩, fr, q⟩
  · obtain ⟨its, rv, p, hz⟩ := I1.tuple hq
    refine wpAny_pyIter_tuple (show s1.heap.IsTuple a its.toArray from p) ?_
    exact ⟨_, _, _, _, H1, rfl, I1.kept (t' := s1.toks) fun b o e => Heap.get?_push_of_some _ e, turn_tuple a _, ⟨_, Heap.get?_push_size _ rfl, rfl, rfl⟩, fr, q⟩
def iSeq (f : M RV) : M Src := bnd f fun a => bnd (lift (pin a)) fun a ρ => match seqOf ρ a with
  | some (_, ds, js) => .ok ⟨ds, js⟩ ρ
  | none => .bad
theorem ei_seq {e : Expr} {f : M RV} (h : EV X W e f) : EI X W tg e (iSeq f) := pi_imp (pi_seq h) fun σ H Q ⟨Z, ρ, E, S⟩ => by
  refine rd_of E (sat_bnd S) (fun a ρ1 v1 H1 P1 R1 S1 => ?_) fun x ρ1 cls d H1 P1 X1 e1 => e1 cls d H1 P1 X1
  obtain ⟨a', ea, S1⟩ := sat_lift S1
  obtain ⟨R1, pn⟩ := pin_ok R1 ea
  cases q : seqOf ρ1 a' with
  | none => simp only [q] at S1; exact S1.elim
  | some p =>
    obtain ⟨b, ds, js⟩ := p
    simp only [q] at S1
    obtain ⟨a, vs, e1, h1, h2, h3⟩ := seq_ok P1.rel R1 q
    refine ⟨a, e1, ?_⟩
    cases b with
    | true => exact .inl ⟨⟨vs, sqL_mono hid_sub h1⟩, S1 _ H1 P1 ⟨h3, wk_list h1 h2⟩⟩
    | false => exact .inr ⟨⟨vs, sqT_mono hid_sub h1⟩, S1 _ H1 P1 ⟨h3, wk_tup h1 h2⟩⟩
/-! ### range -/
def rngs (lo c : Int) : Nat → List D
  | 0 => []
  | n + 1 => .int lo :: rngs (lo + c) c n
theorem rngs_len {c : Int} : ∀ {n : Nat} {lo : Int}, (rngs lo c n).length = n
  | 0, _ => rfl
  | n + 1, lo => by rw [rngs, List.length_cons, rngs_len]
theorem rngs_get {c : Int} : ∀ {n i : Nat} {lo : Int}, i < n → (rngs lo c n)[i]? = some (.int (lo + i * c))
  | n + 1, 0, lo, _ => by simp [rngs]
  | n + 1, i + 1, lo, h => by
    rw [rngs, List.getElem?_cons_succ, rngs_get (by omega)]
    congr 2
    rw [Int.natCast_add, Int.add_mul]
    omega
abbrev small (i : Int) : Bool := decide (-(2 ^ 62) ≤ i) && decide (i < 2 ^ 62)
theorem small_iff {i : Int} : small i = true ↔ -(2 ^ 62) ≤ i ∧ i < 2 ^ 62 := by simp [small]
def gR1 : List D → Option Src
  | [.int j] => if small j = true then some ⟨rngs 0 1 j.toNat, []⟩ else none
  | _ => none
def gR2 : List D → Option Src
  | [.int i, .int j] => if (small i && small j) = true then some ⟨rngs i 1 (j - i).toNat, []⟩ else none
  | _ => none
def gR3 : List D → Option Src
  | [.int i, .int j, .int (.negSucc 0)] => if (small i && small j) = true then some ⟨rngs i (-1) (i - j).toNat, []⟩ else none
  | _ => none
def iRg (g : List D → Option Src) (as : M (List RV)) : M Src := bnd as fun rs ρ => match ders ρ rs with
  | some ds => (match g ds with
    | some s => .ok s ρ
    | none => .bad)
  | none => .bad
theorem wk_rng {K : PySem.W.Frag} {A B : Hp} {lo : Int} {n : Nat} : WalkOk K (Itr lo n) (rngs lo 1 n) A B :=
  wk_of walk_range rngs_len.symm (fun _ _ => trivial) fun i x H H' B' hi s1 s2 ⟨e1, e2⟩ => by
    subst e1 e2
    rw [rngs_len] at hi
    exact ⟨Same.refl _, _, rngs_get hi, by rw [Int.mul_one]; exact .int _⟩
theorem wk_rngC {K : PySem.W.Frag} {A B : Hp} {lo c : Int} {n : Nat} : WalkOk K (Itc lo c n) (rngs lo c n) A B :=
  wk_of walk_rangeC rngs_len.symm (fun _ _ => trivial) fun i x H H' B' hi s1 s2 ⟨e1, e2⟩ => by
    subst e1 e2
    rw [rngs_len] at hi
    exact ⟨Same.refl _, _, rngs_get hi, .int _⟩
theorem dvs_int {G H : Hp} {K : PySem.W.Frag} {vs : List V} {i : Int} {ds : List D} (h : DvAll K G H vs (.int i :: ds)) : ∃ vs', vs = .int i :: vs' ∧ DvAll K G H vs' ds := by
  cases h with
  | cons h1 h2 => rw [dvInt h1]; exact ⟨_, rfl, h2⟩
theorem rd_rg {g : List D → Option Src} {f : M (List RV)} {r : List V → Hp → (It → Hp → Prop) → Prop} {σ : L2.St} {H : Hp} {Q : It → Hp → Prop} (hr : ∀ (G H : Hp) xs ds s (R : It → Hp → Prop), DvAll X.K G H xs ds → g ds = some s → (∀ J, (∀ A B, WalkOk X.K J s.items A B) → s.js = [] → R J H) → r xs H R)
    (w : rdG X.K X.mg W (tI X.K) (iRg g f) σ H Q) : rdG X.K X.mg W (tAs X.K) f σ H fun vs H1 => r vs H1 Q := by
  obtain ⟨Z, ρ, E, S⟩ := w
  refine rd_of E (sat_bnd S) (fun as ρ1 vs H1 P1 R1 S1 => ?_) fun x ρ1 cls d H1 P1 X1 e1 => e1 cls d H1 P1 X1
  cases q1 : ders ρ1 as with
  | none => simp only [q1] at S1; exact S1.elim
  | some ds =>
    simp only [q1] at S1
    cases q3 : g ds with
    | none => simp only [q3] at S1; exact S1.elim
    | some s =>
      simp only [q3] at S1
      exact hr _ _ _ _ _ _ (ders_ok P1.rel R1 q1) q3 fun J wk js => S1 J H1 P1 ⟨by rw [js]; exact locks_nil, wk _ _⟩
theorem ei_rng1 {a : Expr} {f : M (List RV)} {p pos : Pos} (hg : Gl X "range") (hm : X.mg "range" = none) (ha : EA X W [a] f) (hs : starEach [a] X.env = [(false, eval a X.env)] := by rfl) : EI X W tg (.Call (.Name "range" p) [a] [] pos) (iRg gR1 f) :=
  pi_imp (pi_range1 hg hm ha hs) fun σ H Q w => rd_rg (X := X) (r := fun vs H1 R => ∃ j : Int, vs = [.int j] ∧ -(2 ^ 62) ≤ j ∧ j < 2 ^ 62 ∧ R (Itr 0 j.toNat) H1) (fun G H xs ds s R h e k => by
    unfold gR1 at e
    split at e
    · rename_i j
      split at e
      · rename_i hs
        cases e
        obtain ⟨vs', rfl, h2⟩ := dvs_int h
        cases h2
        obtain ⟨h3, h4⟩ := small_iff.mp hs
        exact ⟨j, rfl, h3, h4, k _ (fun A B => wk_rng) rfl⟩
      · cases e
    · cases e) w
theorem ei_rng2 {a b : Expr} {f : M (List RV)} {p pos : Pos} (hg : Gl X "range") (hm : X.mg "range" = none) (ha : EA X W [a, b] f) (hs : starEach [a, b] X.env = [(false, eval a X.env), (false, eval b X.env)] := by rfl) (hs2 : starEach [b] X.env = [(false, eval b X.env)] := by rfl) : EI X W tg (.Call (.Name "range" p) [a, b] [] pos) (iRg gR2 f) :=
  pi_imp (pi_range2 hg hm ha hs hs2) fun σ H Q w => rd_rg (X := X) (r := fun vs H1 R => ∃ i j : Int, vs = [.int i, .int j] ∧ (-(2 ^ 62) ≤ i ∧ i < 2 ^ 62 ∧ -(2 ^ 62) ≤ j ∧ j < 2 ^ 62) ∧ R (Itr i (j - i).toNat) H1) (fun G H xs ds s R h e k => by
    unfold gR2 at e
    split at e
    · rename_i i j
      split at e
      · rename_i hs
        cases e
        obtain ⟨vs1, rfl, g1⟩ := dvs_int h
        obtain ⟨vs2, rfl, g2⟩ := dvs_int g1
        cases g2
        obtain ⟨hs1, hs2⟩ := Bool.and_eq_true_iff.mp hs
        obtain ⟨h3, h4⟩ := small_iff.mp hs1
        obtain ⟨h5, h6⟩ := small_iff.mp hs2
        exact ⟨i, j, rfl, ⟨h3, h4, h5, h6⟩, k _ (fun A B => wk_rng) rfl⟩
      · cases e
    · cases e) w
theorem ei_rng3 {a b c : Expr} {f : M (List RV)} {p pos : Pos} (hg : Gl X "range") (hm : X.mg "range" = none) (ha : EA X W [a, b, c] f) (hs : starEach [a, b, c] X.env = (false, eval a X.env) :: starEach [b, c] X.env := by rfl) (hpl : (backTo pos (starEach [b, c] X.env)).any (·.1) = false := by rfl) : EI X W tg (.Call (.Name "range" p) [a, b, c] [] pos) (iRg gR3 f) :=
  pi_imp (pi_range3 hg hm ha hs hpl) fun σ H Q w => rd_rg (X := X) (r := fun vs H1 R => ∃ (i j c : Int) (n : Nat), vs = [.int i, .int j, .int c] ∧ RgC i j c n ∧ R (Itc i c n) H1) (fun G H xs ds s R h e k => by
    unfold gR3 at e
    split at e
    · rename_i i j
      split at e
      · rename_i hs
        cases e
        obtain ⟨vs1, rfl, g1⟩ := dvs_int h
        obtain ⟨vs2, rfl, g2⟩ := dvs_int g1
        obtain ⟨vs3, rfl, g3⟩ := dvs_int g2
        cases g3
        obtain ⟨hs1, hs2⟩ := Bool.and_eq_true_iff.mp hs
        obtain ⟨h3, h4⟩ := small_iff.mp hs1
        obtain ⟨h5, h6⟩ := small_iff.mp hs2
        exact ⟨i, j, -1, _, rfl, RgC.neg h3 h4 h5 h6, k _ (fun A B => wk_rngC) rfl⟩
      · cases e
    · cases e) w
/-! ### enumerate (of a list), zip, reversed -/
def enums : Nat → List D → List D
  | _, [] => []
  | n, d :: ds => .tuple [.int n, d] :: enums (n + 1) ds
theorem enums_len : ∀ {ds : List D} {n : Nat}, (enums n ds).length = ds.length
  | [], _ => rfl
  | d :: ds, n => by rw [enums, List.length_cons, List.length_cons, enums_len]
theorem enums_get : ∀ {ds : List D} {n i : Nat} {d : D}, ds[i]? = some d → (enums n ds)[i]? = some (.tuple [.int ((n + i : Nat) : Int), d])
  | d :: ds, n, 0, _, h => by cases h; rfl
  | d :: ds, n, i + 1, _, h => by
    rw [enums, List.getElem?_cons_succ, enums_get (by simpa using h)]
    congr 5
    omega
def zips : List D → List D → List D
  | a :: as, b :: bs => .tuple [a, b] :: zips as bs
  | _, _ => []
theorem zips_len : ∀ {as bs : List D}, (zips as bs).length = min as.length bs.length
  | [], _ => by simp [zips]
  | _ :: _, [] => by simp [zips]
  | a :: as, b :: bs => by rw [zips, List.length_cons, List.length_cons, List.length_cons, zips_len]; omega
theorem zips_get : ∀ {as bs : List D} {i : Nat} {a b : D}, as[i]? = some a → bs[i]? = some b → (zips as bs)[i]? = some (.tuple [a, b])
  | [], _, _, _, _, h, _ => by simp at h
  | _ :: _, [], _, _, _, _, h => by simp at h
  | a :: as, b :: bs, 0, _, _, h1, h2 => by cases h1; cases h2; rfl
  | a :: as, b :: bs, i + 1, _, _, h1, h2 => by
    rw [zips, List.getElem?_cons_succ]
    exact zips_get (by simpa using h1) (by simpa using h2)
def iEnm (as : M (List RV)) : M Src := bnd as fun rs ρ => match rs with
  | [a] => (match seqOf ρ a with
    | some (_, ds, js) => .ok ⟨enums 0 ds, js⟩ ρ
    | _ => .bad)
  | _ => .bad
theorem ei_enum {e : Expr} {f : M (List RV)} {p pos tpos : Pos} {elts : List Expr} {kk : Nat} (hg : Gl X "enumerate") (hm : X.mg "enumerate" = none) (ha : EA X W [e] f) (hs : starEach [e] X.env = [(false, eval e X.env)] := by rfl) :
    EI X W (.Tuple elts kk tpos) (.Call (.Name "enumerate" p) [e] [] pos) (iEnm f) := pi_imp (pi_enumA hg hm ha hs) fun σ H Q ⟨Z, ρ, E, S⟩ => by
  refine rd_of E (sat_bnd S) (fun as ρ1 vs H1 P1 R1 S1 => ?_) fun x ρ1 cls d H1 P1 X1 e1 => e1 cls d H1 P1 X1
  match as, vs, R1, S1 with
  | [a], [v], .cons h .nil, S1 =>
    simp only at S1
    cases q : seqOf ρ1 a with
    | none => simp only [q] at S1; exact S1.elim
    | some p =>
      obtain ⟨b, ds, js⟩ := p
      simp only [q] at S1
      obtain ⟨a, vs, e1, h1, h2, h3⟩ := seq_ok P1.rel h.1 q
      subst e1
      have key : ∀ (i : Nat) (x y : V), i < vs.length → (fun i : Nat => some (V.int (i : Nat))) i = some x → vs[i]? = some y → ∃ d e, (enums 0 ds)[i]? = some (.tuple [d, e]) ∧ Dp X.K (hid H1 (Hd Z σ ρ1)) x d ∧ Dp X.K (hid H1 (Hd Z σ ρ1)) y e := fun i x y hi hx hy => by
        cases hx
        obtain ⟨d, k1, k2⟩ := dps_get h2 hy
        exact ⟨_, d, enums_get k1, by rw [Nat.zero_add]; exact .int _, k2⟩
      have ln : vs.length = (enums 0 ds).length := by rw [enums_len, dps_len h2]
      refine ⟨a, vs, rfl, ?_⟩
      cases b with
      | true => exact .inl ⟨sqL_mono hid_sub h1, S1 _ H1 P1 ⟨h3, wk_pair walk_enum ln (fun H s => sqL_mono s h1) fun i x y hi => key i x y (ln ▸ hi)⟩⟩
      | false => exact .inr ⟨sqT_mono hid_sub h1, S1 _ H1 P1 ⟨h3, wk_pair walk_enumT ln (fun H s => sqT_mono s h1) fun i x y hi => key i x y (ln ▸ hi)⟩⟩
  | [], _, _, S1 => exact S1.elim
  | _ :: _ :: _, _, _, S1 => exact S1.elim
def locks2 (j1 j2 : List Nat) : List Nat := j1 ++ j2
theorem mut_app {σ : L2.St} {ρ : Rho} {j1 j2 : List Nat} {a : Addr} (h : Mut σ (onS lk1 (j1 ++ j2) ρ) a) : Mut σ (onS lk1 j1 ρ) a ∧ Mut σ (onS lk1 j2 ρ) a := by
  obtain ⟨i, io, c, h1, h2, h3⟩ := lock_mut' h
  have : j1.contains i = false ∧ j2.contains i = false := by
    simp only [List.contains_eq_mem, List.mem_append, decide_eq_false_iff_not, not_or] at h1 ⊢
    exact h1
  exact ⟨mut_lock this.1 h2 h3, mut_lock this.2 h2 h3⟩
def iZip (as : M (List RV)) : M Src := bnd as fun rs ρ => match rs with
  | [a, b] => (match seqOf ρ a, seqOf ρ b with
    | some (k1, ds, j1), some (k2, es, j2) => if k1 = k2 then .ok ⟨zips ds es, j1 ++ j2⟩ ρ else .bad
    | _, _ => .bad)
  | _ => .bad
theorem walk_zipT {K : PySem.W.Frag} {a b : Addr} {xs ys : List V} {n : Nat} (hn : n = min xs.length ys.length) : Walk (RZ.ItzT K a b) n (fun H => SqT K H a xs ∧ SqT K H b ys) (YPair (fun i => xs[i]?) (fun i => ys[i]?)) := by
  subst hn
  refine ⟨fun i _ hi q => ?_, fun _ q => ⟨xs, ys, q.1, q.2, by omega⟩, fun i H v H' _ q y => ?_⟩
  · have h1 : i < xs.length := by omega
    have h2 : i < ys.length := by omega
    exact ⟨xs, ys, xs[i], ys[i], q.1, q.2, by simp [h1], by simp [h2]⟩
  · obtain ⟨T, x, z, h1, h2, h3, h4, h5⟩ := y
    exact ⟨T, x, z, h1, h2, h3, h4 xs q.1, h5 ys q.2⟩
theorem ei_zip {e e2 : Expr} {f : M (List RV)} {p pos tpos : Pos} {elts : List Expr} {kk : Nat} (hg : Gl X "zip") (hm : X.mg "zip" = none) (ha : EA X W [e, e2] f) (hs : starEach [e, e2] X.env = (false, eval e X.env) :: starEach [e2] X.env := by rfl) (hpl : (backTo pos (starEach [e2] X.env)).any (·.1) = false := by rfl) :
    EI X W (.Tuple elts kk tpos) (.Call (.Name "zip" p) [e, e2] [] pos) (iZip f) := pi_imp (RZ.pi_zipA hg hm ha hs hpl) fun σ H Q ⟨Z, ρ, E, S⟩ => by
  refine rd_of E (sat_bnd S) (fun as ρ1 vs H1 P1 R1 S1 => ?_) fun x ρ1 cls d H1 P1 X1 e1 => e1 cls d H1 P1 X1
  match as, vs, R1, S1 with
  | [a, b], [v, w], .cons h (.cons h' .nil), S1 =>
    simp only at S1
    cases q : seqOf ρ1 a with
    | none => simp only [q] at S1; exact S1.elim
    | some p =>
      obtain ⟨k1, ds, j1⟩ := p
      cases q' : seqOf ρ1 b with
      | none => simp only [q, q'] at S1; exact S1.elim
      | some p' =>
        obtain ⟨k2, es, j2⟩ := p'
        simp only [q, q'] at S1
        by_cases hk : k1 = k2
        · subst hk
          rw [if_pos rfl] at S1
          obtain ⟨a, vs, e1, h1, h2, h3⟩ := seq_ok P1.rel h.1 q
          obtain ⟨b, ws, e2, g1, g2, g3⟩ := seq_ok P1.rel h'.1 q'
          subst e1 e2
          have h1 := sqx_mono (hid_mono (Z' := Mut σ (onS lk1 (j1 ++ j2) ρ1)) fun b o e n => ⟨e, fun z => n (mut_app z).1⟩) h1
          have g1 := sqx_mono (hid_mono (Z' := Mut σ (onS lk1 (j1 ++ j2) ρ1)) fun b o e n => ⟨e, fun z => n (mut_app z).2⟩) g1
          have L : Locks (j1 ++ j2) ρ1 := fun j z => by
            simp only [List.contains_eq_mem, List.mem_append, decide_eq_true_eq] at z
            rcases z with z | z
            · exact h3 j (by simpa using z)
            · exact g3 j (by simpa using z)
          have key : ∀ (i : Nat) (x y : V), i < (zips ds es).length → vs[i]? = some x → ws[i]? = some y → ∃ d e, (zips ds es)[i]? = some (.tuple [d, e]) ∧ Dp X.K (hid H1 (Hd Z σ ρ1)) x d ∧ Dp X.K (hid H1 (Hd Z σ ρ1)) y e := fun i x y hi hx hy => by
            obtain ⟨d, k1, k2⟩ := dps_get h2 hx
            obtain ⟨e, k3, k4⟩ := dps_get g2 hy
            exact ⟨d, e, zips_get k1 k3, k2, k4⟩
          have ln : min vs.length ws.length = (zips ds es).length := by rw [zips_len, dps_len h2, dps_len g2]
          refine ⟨a, b, vs, ws, rfl, ?_⟩
          cases k1 with
          | true => exact .inl ⟨sqL_mono hid_sub h1, sqL_mono hid_sub g1, S1 _ H1 P1 ⟨L, wk_pair (walk_zip ln.symm) rfl (fun H s => ⟨sqL_mono s h1, sqL_mono s g1⟩) key⟩⟩
          | false => exact .inr ⟨sqT_mono hid_sub h1, sqT_mono hid_sub g1, S1 _ H1 P1 ⟨L, wk_pair (walk_zipT ln.symm) rfl (fun H s => ⟨sqT_mono s h1, sqT_mono s g1⟩) key⟩⟩
        · rw [if_neg hk] at S1
          exact S1.elim
  | [], _, _, S1 => exact S1.elim
  | [_], _, _, S1 => exact S1.elim
  | _ :: _ :: _ :: _, _, _, S1 => exact S1.elim
def iRev (f : M RV) : M Src := bnd f fun a => bnd (lift (pin a)) fun a ρ => match seqOf ρ a with
  | some (_, ds, js) => .ok ⟨ds.reverse, js⟩ ρ
  | none => .bad
theorem walk_revT {K : PySem.W.Frag} {a : Addr} {xs : List V} : Walk (RT.ItvT K a xs.length) xs.length (fun H => SqT K H a xs) (fun i H x H' => H' = H ∧ xs[xs.length - 1 - i]? = some x) :=
  ⟨fun i _ hi q => ⟨hi, xs, xs[xs.length - 1 - i]'(by omega), q, by simp [show xs.length - 1 - i < xs.length by omega]⟩, fun _ _ => Nat.le_refl _, fun _ _ _ _ _ q y => ⟨y.1, y.2 xs q⟩⟩
theorem ei_rev {e : Expr} {f : M RV} {p pos : Pos} (hg : Gl X "reversed") (hm : X.mg "reversed" = none) (he : EV X W e f) (hs : starEach [e] X.env = (false, eval e X.env) :: starEach [] X.env := by rfl) : EI X W tg (.Call (.Name "reversed" p) [e] [] pos) (iRev f) := pi_imp (RT.pi_revA hg hm he hs) fun σ H Q ⟨Z, ρ, E, S⟩ => by
  refine rd_of E (sat_bnd S) (fun a ρ1 v1 H1 P1 R1 S1 => ?_) fun x ρ1 cls d H1 P1 X1 e1 => e1 cls d H1 P1 X1
  obtain ⟨a', ea, S1⟩ := sat_lift S1
  obtain ⟨R1, pn⟩ := pin_ok R1 ea
  cases q : seqOf ρ1 a' with
  | none => simp only [q] at S1; exact S1.elim
  | some p =>
    obtain ⟨b, ds, js⟩ := p
    simp only [q] at S1
    obtain ⟨a, vs, e1, h1, h2, h3⟩ := seq_ok P1.rel R1 q
    have key : ∀ (i : Nat) (x : V) (H H' B' : Hp), i < ds.reverse.length → Sub (hid H1 (Hd Z σ ρ1)) B' → Sub B' H → (H' = H ∧ vs[vs.length - 1 - i]? = some x) → Same H H' ∧ ∃ d, ds.reverse[i]? = some d ∧ Dp X.K (Hx B' H H') x d := fun i x H H' B' hi s1 s2 ⟨e, hx⟩ => by
      subst e
      obtain ⟨d, k1, k2⟩ := dps_get h2 hx
      rw [List.length_reverse] at hi
      rw [dps_len h2] at k1
      exact ⟨Same.refl _, d, by rw [List.getElem?_reverse hi]; exact k1, dp_mono (hx_old s2) (dp_mono s1 k2)⟩
    refine ⟨a, vs, e1, ?_⟩
    cases b with
    | true => exact .inl ⟨sqL_mono hid_sub h1, S1 _ H1 P1 ⟨h3, wk_of walk_rev (by rw [List.length_reverse, dps_len h2]) (fun H s => sqL_mono s h1) key⟩⟩
    | false => exact .inr ⟨sqT_mono hid_sub h1, S1 _ H1 P1 ⟨h3, wk_of walk_revT (by rw [List.length_reverse, dps_len h2]) (fun H s => sqT_mono s h1) key⟩⟩
end
end Ev

set_option Elab.async false
set_option linter.all false
set_option maxRecDepth 100000
set_option maxHeartbeats 4000000
set_option autoImplicit false
/-! statements -/
namespace Ev
open PySem L2 PySem.Spec PyProof.Rows
inductive Fl where
  | nx | bk | ct | rt (r : Rt)
abbrev S := M Fl
/-- what comes back by return -/
def RtB (K : PySem.W.Frag) (Z : Addr → Prop) (σ : L2.St) (H : Hp) (ρ : Rho) (σ' : L2.St) (H' : Hp) (ρ' : Rho) (v : V) : Rt → Prop
  | .val d => Dp K (hid H' (Hd Z σ' ρ')) v d
  | .tmp c => ∃ a, v = .ref a ∧ (Own σ ρ a ∨ H a = none) ∧ ¬ Z a ∧ ¬ Own σ' ρ' a ∧ ERel K (fun b => Z b ∨ b = a) σ' H' ρ' ∧ CellAt K (hid H' fun b => Hd Z σ' ρ' b ∨ b = a) H' a c
def flP (K : PySem.W.Frag) (Z : Addr → Prop) (σ : L2.St) (H : Hp) (ρ : Rho) (D : Ends) : Fl → Rho → Prop
  | .nx, ρ' => ∀ σ' H', SPost K Z σ H ρ σ' H' ρ' → D.nx σ' H'
  | .bk, ρ' => ∀ σ' H', SPost K Z σ H ρ σ' H' ρ' → D.bk σ' H'
  | .ct, ρ' => ∀ σ' H', SPost K Z σ H ρ σ' H' ρ' → D.ct σ' H'
  | .rt r, ρ' => ∀ σ' H' v, SPost K Z σ H ρ σ' H' ρ' → RtB K Z σ H ρ σ' H' ρ' v r → D.rt v H'
def xcP (K : PySem.W.Frag) (mg : Str → Option Value) (Z : Addr → Prop) (σ : L2.St) (H : Hp) (ρ : Rho) (W : WX) : Xc → Rho → Prop := fun x ρ' => ∀ σ' cls d H', SPost K Z σ H ρ σ' H' ρ' → XcOk mg x cls d H' → W cls d σ' H'
def rdS (K : PySem.W.Frag) (mg : Str → Option Value) (W : WX) (f : S) : TS := fun D σ H => ∃ Z ρ, ERel K Z σ H ρ ∧ (f ρ).sat (flP K Z σ H ρ D) (xcP K mg Z σ H ρ W)
abbrev ES (X : Cx) (W : WX) (st : Stmt) (f : S) : Prop := PS X st (rdS X.K X.mg W f)
abbrev ESs (X : Cx) (W : WX) (st : List Stmt) (f : S) : Prop := PSs X st (rdS X.K X.mg W f)
theorem ps_imp {X : Cx} {e : Stmt} {t t' : TS} (h : PS X e t) (i : ∀ D σ H, t' D σ H → t D σ H) : PS X e t' := ⟨fun pins s σ H D I w => h.run pins s σ H D I (i D σ H w)⟩
theorem pss_imp {X : Cx} {e : List Stmt} {t t' : TS} (h : PSs X e t) (i : ∀ D σ H, t' D σ H → t D σ H) : PSs X e t' := ⟨fun pins s σ H D I w => h.run pins s σ H D I (i D σ H w)⟩
section
variable {K : PySem.W.Frag} {mg : Str → Option Value} {Z : Addr → Prop} {σ σ' σ1 : L2.St} {H H' H1 : Hp} {ρ ρ' ρ1 : Rho} {v : V} {D D' : Ends} {W : WX}
theorem rtb_trans (P : SPost K Z σ H ρ σ1 H1 ρ1) {r : Rt} (h : RtB K Z σ1 H1 ρ1 σ' H' ρ' v r) : RtB K Z σ H ρ σ' H' ρ' v r := by
  cases r with
  | val d => exact h
  | tmp c =>
    obtain ⟨a, e, o, k⟩ := h
    refine ⟨a, e, ?_, k⟩
    rcases o with o | o
    · exact P.own a o
    · exact .inr (P.new o)
theorem flP_trans (P : SPost K Z σ H ρ σ1 H1 ρ1) {f : Fl} (h : flP K Z σ H ρ D f ρ') : flP K Z σ1 H1 ρ1 D f ρ' := by
  cases f with
  | nx => exact fun σ' H' p => h σ' H' (P.trans p)
  | bk => exact fun σ' H' p => h σ' H' (P.trans p)
  | ct => exact fun σ' H' p => h σ' H' (P.trans p)
  | rt r => exact fun σ' H' v p q => h σ' H' v (P.trans p) (rtb_trans P q)
theorem xcP_trans (P : SPost K Z σ H ρ σ1 H1 ρ1) {x : Xc} (h : xcP K mg Z σ H ρ W x ρ') : xcP K mg Z σ1 H1 ρ1 W x ρ' := fun σ' cls d H' p q => h σ' cls d H' (P.trans p) q
/-- on from a later place -/
theorem rds_on (P : SPost K Z σ H ρ σ1 H1 ρ1) {f : S} (h : (f ρ1).sat (flP K Z σ H ρ D) (xcP K mg Z σ H ρ W)) : rdS K mg W f D σ1 H1 := ⟨Z, ρ1, P.rel, sat_imp h (fun _ _ q => flP_trans P q) fun _ _ q => xcP_trans P q⟩
theorem xc_ev (P : SPost K Z σ H ρ σ1 H1 ρ1) {x : Xc} (h : xcP K mg Z σ H ρ W x ρ') {cls : Value} {d : Option Addr} (p : EPost K Z σ1 H1 ρ1 H' ρ') (k : XcOk mg x cls d H') : W cls d σ1 H' := h _ _ _ _ (P.trans p.sp) k
end
section
variable {X : Cx} {W : WX} {pos : Pos}
/-! ### blocks -/
def sNx : S := ret .nx
def sSeq (f g : S) : S := fun ρ => match f ρ with
  | .ok .nx ρ' => g ρ'
  | r => r
theorem es_nil : ESs X W [] sNx := pss_imp pss_nil fun D σ H ⟨Z, ρ, E, S⟩ => S σ H (.refl E)
theorem rds_seq {f g : S} {D : Ends} {σ : L2.St} {H : Hp} (h : rdS X.K X.mg W (sSeq f g) D σ H) : tSeq (rdS X.K X.mg W f) (rdS X.K X.mg W g) D σ H := by
  obtain ⟨Z, ρ, E, S⟩ := h
  refine ⟨Z, ρ, E, ?_⟩
  unfold sSeq at S
  cases q : f ρ with
  | bad => rw [q] at S; exact S
  | exc x ρ' => rw [q] at S; exact S
  | ok fl ρ' =>
    rw [q] at S
    cases fl with
    | nx => exact fun σ' H' P => rds_on P S
    | bk => exact S
    | ct => exact S
    | rt r => exact S
theorem es_cons {st : Stmt} {rest : List Stmt} {f g : S} (h1 : ES X W st f) (h2 : ESs X W rest g) : ESs X W (st :: rest) (sSeq f g) := pss_imp (pss_cons h1 h2) fun D σ H w => rds_seq w
theorem es_one {st : Stmt} {f : S} (h1 : ES X W st f) : ESs X W [st] f := pss_one h1
theorem es_pass : ES X W (.Pass pos) sNx := ps_imp ps_pass fun D σ H ⟨Z, ρ, E, S⟩ => S σ H (.refl E)
theorem es_break : ES X W (.Break pos) (ret .bk) := ps_imp ps_break fun D σ H ⟨Z, ρ, E, S⟩ => S σ H (.refl E)
theorem es_cont : ES X W (.Continue pos) (ret .ct) := ps_imp ps_continue fun D σ H ⟨Z, ρ, E, S⟩ => S σ H (.refl E)
def sExpr (f : M RV) : S := bnd f fun _ => ret .nx
theorem es_expr {e : Expr} {f : M RV} (h : EV X W e f) (hs : swapsWith e none pos.line X.env = pure false := by rfl) : ES X W (.Expr e pos) (sExpr f) := ps_imp (ps_expr h hs) fun D σ H ⟨Z, ρ, E, S⟩ => by
  refine rd_of E (sat_bnd S) (fun a ρ1 v1 H1 P1 R1 S1 => S1 σ H1 P1.sp) fun x ρ1 cls d H1 P1 X1 e1 => xc_ev (.refl E) e1 P1 X1
def sIf (t : M Bool) (f g : S) : S := bnd t fun b => if b = true then f else g
theorem es_if {c : Expr} {a b : List Stmt} {t : M Bool} {f g : S} (hc : ET X W c t) (ha : ESs X W a f) (hb : ESs X W b g) : ES X W (.If c a b pos) (sIf t f g) := ps_imp (ps_if hc ha hb) fun D σ H ⟨Z, ρ, E, S⟩ => by
  refine rd_of E (sat_bnd S) (fun a ρ1 v1 H1 P1 R1 S1 => ?_) fun x ρ1 cls d H1 P1 X1 e1 => xc_ev (.refl E) e1 P1 X1
  obtain rfl : v1 = a := R1
  cases v1 with
  | true => rw [if_pos rfl] at S1 ⊢; exact rds_on P1.sp S1
  | false => rw [if_neg Bool.false_ne_true] at S1 ⊢; exact rds_on P1.sp S1
/-! ### a slot forgotten -/
theorem SPost.un {K : PySem.W.Frag} {Z : Addr → Prop} {σ : L2.St} {H : Hp} {ρ : Rho} (E : ERel K Z σ H ρ) {i : Nat} {c : Cell} (hs : ρ[i]? = some (.own false false c)) :
    SPost K Z σ H ρ σ H (ρ.set i .un) ∧ ∀ a, σ[i]? = some (some (.ref a)) → ¬ Z a ∧ ¬ Own σ (ρ.set i .un) a ∧ ERel K (fun b => Z b ∨ b = a) σ H (ρ.set i .un) ∧ CellAt K (hid H fun b => Hd Z σ (ρ.set i .un) b ∨ b = a) H a c := by
  have hi : i < ρ.length := (List.getElem?_eq_some_iff.mp hs).1
  have own0 : ∀ j b, OwnAt σ (ρ.set i .un) j b → i ≠ j ∧ OwnAt σ ρ j b := fun j b ⟨h1, io, lk, c, h2⟩ => by
    rcases set_get h2 with ⟨_, e⟩ | ⟨ne, e⟩
    · cases e
    · exact ⟨ne, h1, io, lk, c, e⟩
  obtain ⟨ov, k1, a, e, hc⟩ := E.slot i _ hs
  subst e
  have nz : ¬ Z a := fun z => by
    have := (E.zin i a false false c k1 hs).mpr z
    cases this
  have no : ¬ Own σ (ρ.set i .un) a := fun ⟨j, z⟩ => (own0 j a z).1 (E.inj i j a ⟨k1, _, _, _, hs⟩ (own0 j a z).2)
  have hdd : ∀ b, Hd Z σ (ρ.set i .un) b → Hd Z σ ρ b := fun b h => h.elim .inl fun ⟨j, h⟩ => .inr ⟨j, (own0 j b h).2⟩
  have sub : Sub (hid H (Hd Z σ ρ)) (hid H fun b => Hd Z σ (ρ.set i .un) b ∨ b = a) := hid_mono fun b o q m => ⟨q, fun z => m (z.elim (hdd b) fun e => .inr (e ▸ ⟨i, k1, _, _, _, hs⟩))⟩
  have key : ∀ (Z' : Addr → Prop), (∀ b, Z' b → Z b ∨ b = a) → (∀ b, Z b → Z' b) → ERel K Z' σ H (ρ.set i .un) := fun Z' hz hz' => by
    refine ⟨by rw [List.length_set]; exact E.len, fun j k b h1 h2 => E.inj j k b (own0 j b h1).2 (own0 k b h2).2, fun j sl e => ?_, fun b z => ?_, fun j b io lk c' e1 e2 => ?_⟩
    · have sub2 : Sub (hid H (Hd Z σ ρ)) (hid H (Hd Z' σ (ρ.set i .un))) := hid_mono fun b o q m => ⟨q, fun z => by
        rcases z with z | z
        · rcases hz b z with z | z
          · exact m (.inl z)
          · exact m (.inr (z ▸ ⟨i, k1, _, _, _, hs⟩))
        · exact m (hdd b (.inr z))⟩
      rcases set_get e with ⟨rfl, rfl⟩ | ⟨ne, e⟩
      · exact ⟨_, k1, trivial⟩
      · obtain ⟨ov, g1, g2⟩ := E.slot j sl e
        refine ⟨ov, g1, ?_⟩
        cases sl with
        | un => trivial
        | val d => obtain ⟨w, q1, q2⟩ := g2; exact ⟨w, q1, dp_mono sub2 q2⟩
        | own io lk c => obtain ⟨b, q1, q2⟩ := g2; exact ⟨b, q1, cell_mono sub2 (fun o q => q) q2⟩
    · rcases hz b z with z | z
      · exact E.zok b z
      · exact z ▸ cell_there hc
    · obtain ⟨ne, o⟩ := own0 j b ⟨e1, io, lk, c', e2⟩
      rw [List.getElem?_set_ne ne] at e2
      rw [E.zin j b io lk c' e1 e2]
      exact ⟨hz' b, fun z => (hz b z).elim id fun z => absurd (E.inj i j b ⟨z ▸ k1, _, _, _, hs⟩ o) ne⟩
  refine ⟨⟨key Z (fun b z => .inl z) (fun b z => z), fun b o e _ => e, fun b o e => ⟨o, e⟩, fun b ⟨j, h⟩ => .inl ⟨j, (own0 j b h).2⟩, fun b h => ?_, fun j io c' e => ?_, fun j lk c' e => ?_⟩, fun a' ha' => ?_⟩
  · obtain ⟨j, io, c', h1, h2⟩ := h
    obtain ⟨ne, _⟩ := own0 j b ⟨h1, io, false, c', h2⟩
    rw [List.getElem?_set_ne ne] at h2
    exact .inl ⟨j, io, c', h1, h2⟩
  · rcases set_get e with ⟨_, z⟩ | ⟨ne, e⟩
    · cases z
    · exact ⟨e, rfl⟩
  · have ne : i ≠ j := by
      rintro rfl
      rw [hs] at e
      cases e
    exact ⟨c', by rw [List.getElem?_set_ne ne]; exact e, rfl⟩
  · rw [k1] at ha'
    cases ha'
    exact ⟨nz, no, key _ (fun b z => z) (fun b z => .inl z), cell_mono sub (fun o q => q) hc⟩
/-! ### return -/
def rtOf : RV → M Rt
  | .val d => ret (.val d)
  | .tmp c => ret (.tmp c)
  | .bor i => fun ρ => match ρ[i]? with
    | some (.val d) => .ok (.val d) ρ
    | some (.own false false c) => .ok (.tmp c) (ρ.set i .un)
    | _ => .bad
def sRet (f : M RV) : S := bnd f fun a => bnd (rtOf a) fun r => ret (.rt r)
theorem es_ret {e : Expr} {f : M RV} (h : EV X W e f) : ES X W (.Return (some e) pos) (sRet f) := ps_imp (ps_ret h) fun D σ H ⟨Z, ρ, E, S⟩ => by
  refine rd_of E (sat_bnd S) (fun a ρ1 v1 H1 P1 R1 S1 => ?_) fun x ρ1 cls d H1 P1 X1 e1 => xc_ev (.refl E) e1 P1 X1
  cases a with
  | val d => exact S1 σ H1 v1 P1.sp R1
  | tmp c =>
    obtain ⟨a, e, n, k⟩ := R1
    exact S1 σ H1 v1 P1.sp ⟨a, e, .inr n, k⟩
  | bor i =>
    obtain ⟨h1, sl, h2, h3⟩ := R1
    unfold bnd at S1
    simp only [rtOf, h2] at S1
    cases sl with
    | un => exact S1.elim
    | val d =>
      obtain ⟨ov, k1, w, k2, k3⟩ := P1.rel.slot i _ h2
      rw [h1] at k1
      cases k1
      cases k2
      exact S1 σ H1 v1 P1.sp k3
    | own io lk c =>
      cases io <;> cases lk <;> try exact S1.elim
      obtain ⟨P2, k⟩ := SPost.un P1.rel h2
      obtain ⟨ov, k1, a, e, _⟩ := P1.rel.slot i _ h2
      rw [h1] at k1
      cases k1
      cases e
      have hi : Own σ ρ1 a := ⟨i, h1, _, _, _, h2⟩
      exact S1 σ H1 _ (P1.sp.trans P2) ⟨a, rfl, .inl (P1.evo.owns hi), k a h1⟩
theorem es_retN : ES X W (.Return none pos) (ret (.rt (.val .none))) := ps_imp ps_retN fun D σ H ⟨Z, ρ, E, S⟩ => S σ H .non (.refl E) .non
/-! ### name = e -/
def stV (i : Nat) (d : D) : M Unit := fun ρ => match ρ[i]? with
  | some s => if free1 s = true then .ok () (ρ.set i (.val d)) else .bad
  | none => .bad
def stT (i : Nat) (c : Cell) : M Unit := fun ρ => match ρ[i]? with
  | some s => if free1 s = true then .ok () (ρ.set i (.own false false c)) else .bad
  | none => .bad
def st (i : Nat) : RV → M Unit
  | .tmp c => stT i c
  | rv => bnd (esc rv) (stV i)
def sSet (i : Nat) (f : M RV) : S := bnd f fun a => bnd (st i a) fun _ => ret .nx
/-- stored: what is at hand behind it -/
theorem st_ok {K : PySem.W.Frag} {Z : Addr → Prop} {σ : L2.St} {H0 H : Hp} {ρ0 ρ ρ' : Rho} {v : V} {rv : RV} {i : Nat} (P : EPost K Z σ H0 ρ0 H ρ) (R : RVOk K Z σ H0 H ρ v rv) (e : st i rv ρ = .ok () ρ') : SPost K Z σ H0 ρ0 (σ.set i (some v)) H ρ' := by
  have dat : bnd (esc rv) (stV i) ρ = .ok () ρ' → SPost K Z σ H0 ρ0 (σ.set i (some v)) H ρ' := fun e => by
    unfold bnd at e
    cases q : esc rv ρ with
    | bad => rw [q] at e; cases e
    | exc x ρ1 => rw [q] at e; cases e
    | ok d ρ1 =>
      rw [q] at e
      obtain ⟨P2, h2⟩ := esc_ok P.rel R q
      simp only [stV] at e
      cases hs : ρ1[i]? with
      | none => simp only [hs] at e; cases e
      | some s =>
        simp only [hs] at e
        split at e
        · rename_i hf
          cases e
          exact (P.trans P2).sp.trans (SPost.store P2.rel hs hf h2)
        · cases e
  cases rv with
  | val d => exact dat e
  | bor j => exact dat e
  | tmp c =>
    obtain ⟨a, rfl, n, nz, no, E', hc⟩ := R
    simp only [st, stT] at e
    cases hs : ρ[i]? with
    | none => simp only [hs] at e; cases e
    | some s =>
      simp only [hs] at e
      split at e
      · rename_i hf
        cases e
        exact SPost.storeT P.rel hs hf nz no E' hc P n
      · cases e
theorem st_noexc {i : Nat} {rv : RV} {ρ ρ' : Rho} {x : Xc} : st i rv ρ ≠ .exc x ρ' := by
  intro e
  have dat : bnd (esc rv) (stV i) ρ ≠ .exc x ρ' := fun e => by
    unfold bnd at e
    cases q : esc rv ρ with
    | bad => rw [q] at e; cases e
    | exc x ρ1 => exact esc_noexc q
    | ok d ρ1 =>
      rw [q] at e
      simp only [stV] at e
      split at e
      · split at e <;> cases e
      · cases e
  cases rv with
  | val d => exact dat e
  | bor j => exact dat e
  | tmp c =>
    simp only [st, stT] at e
    split at e
    · split at e <;> cases e
    · cases e
theorem sat_st {β : Type} {i : Nat} {rv : RV} {ρ : Rho} {k : Unit → M β} {p : β → Rho → Prop} {e : Xc → Rho → Prop} (h : (bnd (st i rv) k ρ).sat p e) : ∃ ρ', st i rv ρ = .ok () ρ' ∧ (k () ρ').sat p e := by
  unfold bnd at h
  cases q : st i rv ρ with
  | ok d ρ' => rw [q] at h; exact ⟨ρ', rfl, h⟩
  | exc x ρ' => exact absurd q st_noexc
  | bad => rw [q] at h; exact h.elim
theorem rds_set {f : M RV} {i : Nat} {D : Ends} {σ : L2.St} {H : Hp} (h : rdS X.K X.mg W (sSet i f) D σ H) : tAsg (rd X.K X.mg W f) (gName i) D σ H := by
  obtain ⟨Z, ρ, E, S⟩ := h
  refine rd_of E (sat_bnd S) (fun a ρ1 v1 H1 P1 R1 S1 => ?_) fun x ρ1 cls d H1 P1 X1 e1 => xc_ev (.refl E) e1 P1 X1
  obtain ⟨ρ2, q, S2⟩ := sat_st S1
  exact S2 _ H1 (st_ok P1 R1 q)
theorem es_set {i : Nat} {x : Str} {e : Expr} {f : M RV} {pos' : Pos} (hN : X.N.Nodup) (hi : X.N[i]? = some x) (hx : Loc X.env.scope x) (he : EV X W e f) (hs : swapsWith e (some (.Name x pos')) pos.line X.env = pure false := by rfl) (hf : X.fn x = true ∨ X.env.scope.names.lookup x = some .local := by first | exact .inl rfl | exact .inr rfl | assumption) :
    ES X W (.Assign [.Name x pos'] e pos) (sSet i f) := ps_imp (ps_set hN hi hx he hs hf) fun D σ H w => rds_set w
/-! ### a, b = e -/
def sTgt (b : Bd) (f : M RV) : S := bnd f fun a => bnd (esc a) fun d ρ => match b d ρ with
  | some ρ' => .ok .nx ρ'
  | none => .bad
theorem es_tgt {tg e : Expr} {b : Bd} {js : List Nat} {f : M RV} (he : EV X W e f) (hg : TB X tg b js) (hs : swapsWithSole [tg] e pos.line X.env = pure false := by rfl) (hw : swappedStores [tg] e X.env = pure none := by rfl)
    (h1 : (assignEach [tg] X.env).map (·.2) = [assign tg X.env] := by rfl) : ES X W (.Assign [tg] e pos) (sTgt b f) := ps_imp (ps_asg he hg hs hw h1) fun D σ H ⟨Z, ρ, E, S⟩ => by
  refine rd_of E (sat_bnd S) (fun a ρ1 v1 H1 P1 R1 S1 => ?_) fun x ρ1 cls d H1 P1 X1 e1 => xc_ev (.refl E) e1 P1 X1
  obtain ⟨d, ρ2, q, S2⟩ := sat_esc S1
  obtain ⟨P2, h2⟩ := esc_ok P1.rel R1 q
  cases hb : b d ρ2 with
  | none => simp only [hb] at S2; exact S2.elim
  | some ρ3 =>
    simp only [hb] at S2
    exact ⟨Z, ρ2, d, ρ3, P2.rel, h2, hb, fun σ' P3 _ => S2 σ' H1 ((P1.trans P2).sp.trans P3)⟩
/-! ### a, b = x, y -/
theorem ERel.unhide {K : PySem.W.Frag} {Z : Addr → Prop} {σ : L2.St} {H : Hp} {ρ : Rho} {p : Addr} (E : ERel K (fun b => Z b ∨ b = p) σ H ρ) (no : ¬ Own σ ρ p) : ERel K Z σ H ρ := by
  have sub : Sub (hid H (Hd (fun b => Z b ∨ b = p) σ ρ)) (hid H (Hd Z σ ρ)) := hid_mono fun b o q m => ⟨q, fun z => m (z.elim (fun z => .inl (.inl z)) .inr)⟩
  refine ⟨E.len, E.inj, fun i sl e => ?_, fun a z => E.zok a (.inl z), fun i a io lk c e1 e2 => ?_⟩
  · obtain ⟨ov, g1, g2⟩ := E.slot i sl e
    refine ⟨ov, g1, ?_⟩
    cases sl with
    | un => trivial
    | val d => obtain ⟨w, q1, q2⟩ := g2; exact ⟨w, q1, dp_mono sub q2⟩
    | own io lk c => obtain ⟨b, q1, q2⟩ := g2; exact ⟨b, q1, cell_mono sub (fun o q => q) q2⟩
  · rw [E.zin i a io lk c e1 e2]
    exact ⟨fun z => z.elim id fun z => absurd (z ▸ ⟨i, e1, _, _, _, e2⟩) no, .inl⟩
theorem EPost.unhide {K : PySem.W.Frag} {Z : Addr → Prop} {σ : L2.St} {H H' : Hp} {ρ ρ' : Rho} {p : Addr} (P : EPost K (fun b => Z b ∨ b = p) σ H ρ H' ρ') (no : ¬ Own σ ρ p) : EPost K Z σ H ρ H' ρ' := ⟨P.rel.unhide fun z => no (P.evo.owns z), P.fr, P.dom, P.evo⟩
theorem rv_unhide {K : PySem.W.Frag} {Z : Addr → Prop} {σ : L2.St} {H0 H : Hp} {ρ : Rho} {p : Addr} {v : V} {rv : RV} (h : RVOk K (fun b => Z b ∨ b = p) σ H0 H ρ v rv) (no : ¬ Own σ ρ p) : RVOk K Z σ H0 H ρ v rv := by
  cases rv with
  | val d => exact dp_mono (hid_mono fun b o q m => ⟨q, fun z => m (z.elim (fun z => .inl (.inl z)) .inr)⟩) h
  | bor i => exact h
  | tmp c =>
    obtain ⟨a, e, n, nz, no', E', k⟩ := h
    refine ⟨a, e, n, fun z => nz (.inl z), no', ?_, cell_mono (hid_mono fun b o q m => ⟨q, fun z => m ?_⟩) (fun o q => q) k⟩
    · have E2 : ERel K (fun b => (Z b ∨ b = a) ∨ b = p) σ H ρ := by
        have : (fun b => (Z b ∨ b = a) ∨ b = p) = fun b => (Z b ∨ b = p) ∨ b = a := by funext b; exact propext ⟨fun z => by rcases z with (z | z) | z; exact .inl (.inl z); exact .inr z; exact .inl (.inr z), fun z => by rcases z with (z | z) | z; exact .inl (.inl z); exact .inr z; exact .inl (.inr z)⟩
        rw [this]; exact E'
      exact E2.unhide no
    · rcases z with (z | z) | z
      · exact .inl (.inl (.inl z))
      · exact .inl (.inr z)
      · exact .inr z
def sPar (i j : Nat) (f g : M RV) : S := bnd f fun a => match a with
  | .tmp c => bnd g fun b => bnd (st j b) fun _ => bnd (stT i c) fun _ => ret .nx
  | a => bnd (esc a) fun d => bnd g fun b => bnd (st j b) fun _ => bnd (stV i d) fun _ => ret .nx
/-- a hidden object stored in a slot: the slot owns it -/
theorem SPost.storeH {K : PySem.W.Frag} {Z : Addr → Prop} {σ0 σ : L2.St} {H0 H : Hp} {ρ0 ρ : Rho} {i : Nat} {s0 : Slot} {a : Addr} {c : Cell} (P : SPost K Z σ0 H0 ρ0 σ H ρ) (hs : ρ[i]? = some s0) (hf : free1 s0 = true) (nz : ¬ Z a) (no : ¬ Own σ ρ a) (E : ERel K (fun b => Z b ∨ b = a) σ H ρ)
    (hc : CellAt K (hid H fun b => Hd Z σ ρ b ∨ b = a) H a c) (n0 : H0 a = none) : SPost K Z σ0 H0 ρ0 (σ.set i (some (.ref a))) H (ρ.set i (.own false false c)) := by
  have E0 := P.rel
  have hi : i < ρ.length := (List.getElem?_eq_some_iff.mp hs).1
  have hiσ : i < σ.length := by rw [E.len]; exact hi
  have own0 : ∀ j b, OwnAt (σ.set i (some (.ref a))) (ρ.set i (.own false false c)) j b → (i = j ∧ b = a) ∨ (i ≠ j ∧ OwnAt σ ρ j b) := fun j b h => by
    rcases own_set h with ⟨e, e2, _⟩ | h
    · cases e2; exact .inl ⟨e, rfl⟩
    · exact .inr h
  have hdd : ∀ b, Hd Z (σ.set i (some (.ref a))) (ρ.set i (.own false false c)) b → Hd Z σ ρ b ∨ b = a := fun b h => by
    rcases h with h | ⟨j, h⟩
    · exact .inl (.inl h)
    · rcases own0 j b h with ⟨_, e⟩ | ⟨_, h⟩
      · exact .inr e
      · exact .inl (.inr ⟨j, h⟩)
  have sub : Sub (hid H fun b => Hd Z σ ρ b ∨ b = a) (hid H (Hd Z (σ.set i (some (.ref a))) (ρ.set i (.own false false c)))) := hid_mono fun b o q m => ⟨q, fun z => m (hdd b z)⟩
  have subE : Sub (hid H (Hd (fun b => Z b ∨ b = a) σ ρ)) (hid H fun b => Hd Z σ ρ b ∨ b = a) := hid_mono fun b o q m => ⟨q, fun z => m (by
    rcases z with (z | z) | z
    · exact .inl (.inl z)
    · exact .inr z
    · exact .inl (.inr z))⟩
  have sub2 : Sub (hid H (Hd (fun b => Z b ∨ b = a) σ ρ)) (hid H (Hd Z (σ.set i (some (.ref a))) (ρ.set i (.own false false c)))) := fun b o q => sub b o (subE b o q)
  refine ⟨⟨by rw [List.length_set, List.length_set]; exact E.len, fun j k b h1 h2 => ?_, fun j sl e => ?_, E0.zok, fun j b io lk c' e1 e2 => ?_⟩, P.fr, P.dom, fun b ⟨j, h⟩ => ?_, fun b h => ?_, fun j io c' e => ?_, fun j lk c' e => ?_⟩
  · rcases own0 j b h1 with ⟨e1, x1⟩ | ⟨n1, o1⟩ <;> rcases own0 k b h2 with ⟨e2, x2⟩ | ⟨n2, o2⟩
    · exact e1.symm.trans e2
    · exact absurd (x1 ▸ ⟨k, o2⟩) no
    · exact absurd (x2 ▸ ⟨j, o1⟩) no
    · exact E.inj j k b o1 o2
  · rcases set_get e with ⟨rfl, rfl⟩ | ⟨ne, e⟩
    · exact ⟨_, List.getElem?_set_self hiσ, a, rfl, cell_mono sub (fun o q => q) hc⟩
    · obtain ⟨ov, k1, k2⟩ := E.slot j sl e
      refine ⟨ov, by rw [List.getElem?_set_ne ne]; exact k1, ?_⟩
      cases sl with
      | un => trivial
      | val d =>
        obtain ⟨w, q1, q2⟩ := k2
        exact ⟨w, q1, dp_mono sub2 q2⟩
      | own io lk c =>
        obtain ⟨b, q1, q2⟩ := k2
        exact ⟨b, q1, cell_mono sub2 (fun o q => q) q2⟩
  · rcases own0 j b ⟨e1, io, lk, c', e2⟩ with ⟨rfl, rfl⟩ | ⟨ne, o⟩
    · rw [List.getElem?_set_self hi] at e2
      cases e2
      exact Iff.intro (fun z => absurd z (by decide)) (fun z => absurd z nz)
    · rw [List.getElem?_set_ne ne] at e2
      exact E0.zin j b io lk c' o.1 e2
  · rcases own0 j b h with ⟨_, rfl⟩ | ⟨_, o⟩
    · exact .inr n0
    · exact P.own b ⟨j, o⟩
  · obtain ⟨j, io, c', e1, e2⟩ := h
    rcases own0 j b ⟨e1, io, false, c', e2⟩ with ⟨_, rfl⟩ | ⟨ne, o⟩
    · exact .inr n0
    · rw [List.getElem?_set_ne ne] at e2
      exact P.mt b ⟨j, io, c', o.1, e2⟩
  · rcases set_get e with ⟨_, z⟩ | ⟨ne, e⟩
    · cases z
    · obtain ⟨q1, q2⟩ := P.lk j io c' e
      exact ⟨q1, by rw [List.getElem?_set_ne ne]; exact q2⟩
  · obtain ⟨c2, q1, q2⟩ := P.io j lk c' e
    have ne : i ≠ j := by
      rintro rfl
      rw [hs] at q1
      cases q1
      cases hf
    exact ⟨c2, by rw [List.getElem?_set_ne ne]; exact q1, by rw [List.getElem?_set_ne ne]; exact q2⟩
theorem SPost.unhide {K : PySem.W.Frag} {Z : Addr → Prop} {σ σ' : L2.St} {H H' : Hp} {ρ ρ' : Rho} {p : Addr} (P : SPost K (fun b => Z b ∨ b = p) σ H ρ σ' H' ρ') (no : ¬ Own σ' ρ' p) : SPost K Z σ H ρ σ' H' ρ' := ⟨P.rel.unhide no, P.fr, P.dom, P.own, P.mt, P.lk, P.io⟩
theorem es_par {i j : Nat} {x y : Str} {a b : Expr} {f g : M RV} {px py pt : Pos} {kt k2 pt2} (hc : X.calm = true) (hN : X.N.Nodup) (hi : X.N[i]? = some x) (hj : X.N[j]? = some y) (hij : i ≠ j)
    (hx : X.env.scope.names.lookup x = some .local) (hy : X.env.scope.names.lookup y = some .local) (ha : EV X W a f) (hb : EV X W b g)
    (hw : swappedStores [.Tuple [.Name x px, .Name y py] kt pt] (.Tuple [a, b] k2 pt2) X.env = pure (some [x, y]))
    (hs : swapsWithSole [.Tuple [.Name x px, .Name y py] kt pt] (.Tuple [a, b] k2 pt2) pos.line X.env = pure false := by rfl)
    (hs1 : starEach [a, b] X.env = (false, eval a X.env) :: starEach [b] X.env := by rfl) (hs2 : starEach [b] X.env = (false, eval b X.env) :: starEach [] X.env := by rfl) :
    ES X W (.Assign [.Tuple [.Name x px, .Name y py] kt pt] (.Tuple [a, b] k2 pt2) pos) (sPar i j f g) := by
  refine ps_imp (ps_par hc hN hi hj hij hx hy (pa_cons ha (pa_cons hb pa_nil hs2) hs1) hw hs) fun D σ H ⟨Z, ρ, E, S⟩ => ?_
  refine rd_of E (sat_bnd S) (fun a ρ1 v1 H1 P1 R1 S1 => ?_) fun x ρ1 cls d H1 P1 X1 e1 => xc_ev (.refl E) e1 P1 X1
  have dat : (bnd (esc a) (fun d => bnd g fun b => bnd (st j b) fun _ => bnd (stV i d) fun _ => ret .nx) ρ1).sat (flP X.K Z σ H ρ D) (xcP X.K X.mg Z σ H ρ W) →
      rdG X.K X.mg W (tV X.K) g σ H1 fun w H2 => ∃ v w', [v1, w] = [v, w'] ∧ D.nx ((σ.set i (some v)).set j (some w')) H2 := fun S1 => by
    obtain ⟨d, ρ2, q, S2⟩ := sat_esc S1
    obtain ⟨P2, h2⟩ := esc_ok P1.rel R1 q
    refine rd_of P2.rel (sat_bnd S2) (fun b ρ3 v3 H3 P3 R3 S3 => ?_) fun x ρ1 cls d H2 P2' X1 e1 => xc_ev (P1.trans P2).sp e1 P2' X1
    obtain ⟨ρ4, q4, S4⟩ := sat_st S3
    have P4 := st_ok P3 R3 q4
    have h4 := dp_mono P4.sub h2
    refine ⟨v1, v3, rfl, ?_⟩
    unfold bnd at S4
    simp only [stV] at S4
    cases hs : ρ4[i]? with
    | none => simp only [hs] at S4; exact S4.elim
    | some s =>
      simp only [hs] at S4
      by_cases hf : free1 s = true
      · simp only [hf, if_true] at S4
        have P5 := SPost.store P4.rel hs hf h4
        rw [List.set_comm _ _ hij]
        exact S4 _ H3 (((P1.trans P2).sp.trans P4).trans P5)
      · simp only [hf, if_false, Bool.false_eq_true] at S4
        exact S4.elim
  cases a with
  | val d => exact dat S1
  | bor k => exact dat S1
  | tmp c =>
    obtain ⟨A, rfl, n, nz, no, E', hc⟩ := R1
    refine rd_of E' (sat_bnd S1) (fun b ρ3 v3 H3 P3 R3 S3 => ?_) fun x ρ1 cls d H2 P2' X1 e1 => xc_ev P1.sp e1 (P2'.unhide no) X1
    obtain ⟨ρ4, q4, S4⟩ := sat_st S3
    have P4 := st_ok P3 R3 q4
    obtain ⟨o, ho⟩ := cell_there hc
    have no4 : ¬ Own (σ.set j (some v3)) ρ4 A := fun z => (P4.own A z).elim no fun z => by rw [ho] at z; cases z
    have hc4 : CellAt X.K (hid H3 fun b => Hd Z (σ.set j (some v3)) ρ4 b ∨ b = A) H3 A c := by
      refine cell_mono (fun b o q => ?_) (fun o q => P4.fr A o q fun z => no z.own) hc
      obtain ⟨q1, q2⟩ := hid_iff.mp q
      obtain ⟨q3, q5⟩ := hid_iff.mp (P4.sub b o (hid_iff.mpr ⟨q1, fun z => q2 (by rcases z with (z | z) | z; exact .inl (.inl z); exact .inr z; exact .inl (.inr z))⟩))
      exact hid_iff.mpr ⟨q3, fun z => q5 (by rcases z with (z | z) | z; exact .inl (.inl z); exact .inr z; exact .inl (.inr z))⟩
    refine ⟨.ref A, v3, rfl, ?_⟩
    unfold bnd at S4
    simp only [stT] at S4
    cases hs : ρ4[i]? with
    | none => simp only [hs] at S4; exact S4.elim
    | some s =>
      simp only [hs] at S4
      by_cases hf : free1 s = true
      · simp only [hf, if_true] at S4
        have P5 := SPost.storeH (P1.sp.trans (P4.unhide no4)) hs hf nz no4 P4.rel hc4 n
        rw [List.set_comm _ _ hij]
        exact S4 _ H3 P5
      · simp only [hf, if_false, Bool.false_eq_true] at S4
        exact S4.elim
end
end Ev

set_option Elab.async false
set_option linter.all false
set_option maxRecDepth 100000
set_option maxHeartbeats 4000000
set_option autoImplicit false
/-! loops; comprehensions -/
namespace Ev
open PySem L2 PySem.Spec PyProof.Rows
section
variable {X : Cx} {W : WX} {pos : Pos}
/-! ### for -/
def forL (b : Bd) (body : S) : List D → S
  | [] => ret .nx
  | d :: ds => fun ρ => match b d ρ with
    | none => .bad
    | some ρ1 => (match body ρ1 with
      | .ok .nx ρ2 => forL b body ds ρ2
      | .ok .ct ρ2 => forL b body ds ρ2
      | .ok .bk ρ2 => .ok .nx ρ2
      | r => r)
def unl (js : List Nat) (r : Res Fl) : Res Fl := match r with
  | .ok a ρ => .ok a (onS ul1 js ρ)
  | .exc x ρ => .exc x (onS ul1 js ρ)
  | .bad => .bad
def sFor (src : M Src) (b : Bd) (body : S) : S := bnd src fun s ρ => unl s.js (forL b body s.items (onS lk1 s.js ρ))
theorem sat_unl {js : List Nat} {r : Res Fl} {p : Fl → Rho → Prop} {e : Xc → Rho → Prop} (h : (unl js r).sat p e) : r.sat (fun a ρ => p a (onS ul1 js ρ)) fun x ρ => e x (onS ul1 js ρ) := by
  cases r <;> exact h
theorem rtb_unlock {K : PySem.W.Frag} {Z : Addr → Prop} {σ σ' : L2.St} {H H' : Hp} {ρ ρ' : Rho} {v : V} {js : List Nat} {r : Rt} (h : RtB K Z σ H (onS lk1 js ρ) σ' H' ρ' v r) : RtB K Z σ H ρ σ' H' (onS ul1 js ρ') v r := by
  cases r with
  | val d => exact dp_mono (alike_sub alike_ul) h
  | tmp c =>
    obtain ⟨a, e, o, nz, no, E', k⟩ := h
    refine ⟨a, e, o.imp_left fun ⟨i, z⟩ => ⟨i, alike_own (alike_symm alike_lk) z⟩, nz, fun ⟨i, z⟩ => no ⟨i, alike_own (alike_symm alike_ul) z⟩, E'.alike alike_ul, cell_mono (hid_mono fun b o q m => ⟨q, fun z => m (z.imp_left fun z => (alike_hd alike_ul).mpr z)⟩) (fun o q => q) k⟩
/-- what is wanted behind the unlocking, asked before it -/
theorem flP_unl {K : PySem.W.Frag} {Z : Addr → Prop} {σ : L2.St} {H : Hp} {ρ : Rho} {js : List Nat} {D : Ends} (l : Locks js ρ) {f : Fl} {ρ' : Rho} (h : flP K Z σ H ρ D f (onS ul1 js ρ')) : flP K Z σ H (onS lk1 js ρ) D f ρ' := by
  cases f with
  | nx => exact fun σ' H' P => h σ' H' (P.unlock l)
  | bk => exact fun σ' H' P => h σ' H' (P.unlock l)
  | ct => exact fun σ' H' P => h σ' H' (P.unlock l)
  | rt r => exact fun σ' H' v P k => h σ' H' v (P.unlock l) (rtb_unlock k)
theorem same_key {K : PySem.W.Frag} {Z : Addr → Prop} {σ : L2.St} {H H' : Hp} {ρ : Rho} (E : ERel K Z σ H ρ) (s : Same H H') : Sub (Hx (hid H (Hd Z σ ρ)) H H') (hid H' (Hd Z σ ρ)) := fun a o e => by
  unfold Hx at e
  split at e
  · rename_i n
    refine hid_iff.mpr ⟨e, fun z => ?_⟩
    obtain ⟨o', q⟩ := E.there z
    rw [n] at q
    cases q
  · obtain ⟨e1, e2⟩ := hid_iff.mp e
    exact hid_iff.mpr ⟨s a o e1, e2⟩
theorem es_for {tg iter : Expr} {body : List Stmt} {src : M Src} {b : Bd} {js : List Nat} {f : S} (hp : PassesOwn (model X.prog X.w) X.A X.env X.xe) (hc : X.calm = true) (hi : EI X W tg iter src) (hg : TB X tg b js) (hb : ESs X W body f)
    (hs : ∀ x, foldedSetIterable iter X.env x = pure x := by intro _; rfl) : ES X W (.For tg iter body [] pos) (sFor src b f) := ps_imp (ps_for hp hc hi hg hb hs) fun D σ H ⟨Z, ρ, E, S⟩ => by
  refine rd_of E (sat_bnd S) (fun a ρ1 J H1 P1 R1 S1 => ?_) fun x ρ1 cls d H1 P1 X1 e1 => xc_ev (.refl E) e1 P1 X1
  obtain ⟨L, wk⟩ := R1
  have S2 := sat_imp (sat_unl S1) (fun fl ρ' q => flP_unl L (flP_trans P1.sp q)) fun x ρ' q => (show xcP X.K X.mg Z σ H1 (onS lk1 a.js ρ1) W x ρ' from fun σ' cls d H' P k => q σ' cls d H' (P1.sp.trans (P.unlock L)) k)
  generalize hρL : onS lk1 a.js ρ1 = ρL at S2 wk
  have EL : ERel X.K Z σ H1 ρL := by rw [← hρL]; exact P1.rel.alike alike_lk
  have AL : Alike ρ1 ρL := by rw [← hρL]; exact alike_lk
  refine ⟨fun i m σ' H' => m = a.items.length - i ∧ i ≤ a.items.length ∧ ∃ ρ', SPost X.K Z σ H1 ρL σ' H' ρ' ∧ (forL b f (a.items.drop i) ρ').sat (flP X.K Z σ H1 ρL D) (xcP X.K X.mg Z σ H1 ρL W), ⟨_, rfl, Nat.zero_le _, ρL, .refl EL, S2⟩, ?_⟩
  rintro i m σ' H' ⟨rfl, hi, ρ', P, S3⟩
  have subA : Sub (hid H1 (Mut σ ρL)) H' := fun c o q => hid_sub c o (P.subM c o q)
  by_cases hlt : i < a.items.length
  · rw [List.drop_eq_getElem_cons hlt] at S3
    refine .inr ⟨wk.goes i H' hlt subA, fun σ'' H'' => i + 1 ≤ a.items.length ∧ ∃ ρ'', SPost X.K Z σ H1 ρL σ'' H'' ρ'' ∧ (forL b f (a.items.drop (i + 1)) ρ'').sat (flP X.K Z σ H1 ρL D) (xcP X.K X.mg Z σ H1 ρL W), fun σ'' H'' q => ⟨_, by omega, rfl, q⟩, fun x H'' y => ?_⟩
    obtain ⟨sm, d, hd, hx⟩ := wk.yields i x H' H'' (hid H' (Hd Z σ' ρ')) hlt subA (fun c o q => P.sub c o (alike_sub AL c o q)) hid_sub y
    rw [List.getElem?_eq_getElem hlt] at hd
    have hd := Option.some.inj hd
    subst hd
    have P2 := P.trans (EPost.same P.rel sm).sp
    unfold forL at S3
    cases hb : b a.items[i] ρ' with
    | none => simp only [hb] at S3; exact S3.elim
    | some ρ2 =>
      simp only [hb] at S3
      refine ⟨Z, ρ', a.items[i], ρ2, P2.rel, dp_mono (same_key P.rel sm) hx, hb, fun σ2 P3 _ => ?_⟩
      have P4 := P2.trans P3
      refine ⟨Z, ρ2, P4.rel, ?_⟩
      have again : ∀ {ρ3 : Rho}, (forL b f (a.items.drop (i + 1)) ρ3).sat (flP X.K Z σ H1 ρL D) (xcP X.K X.mg Z σ H1 ρL W) → ∀ σ3 H3, SPost X.K Z σ2 H'' ρ2 σ3 H3 ρ3 → i + 1 ≤ a.items.length ∧ ∃ ρ'', SPost X.K Z σ H1 ρL σ3 H3 ρ'' ∧ (forL b f (a.items.drop (i + 1)) ρ'').sat (flP X.K Z σ H1 ρL D) (xcP X.K X.mg Z σ H1 ρL W) :=
        fun S4 σ3 H3 P5 => ⟨hlt, _, P4.trans P5, S4⟩
      cases q : f ρ2 with
      | bad => rw [q] at S3; exact S3.elim
      | exc x ρ3 => rw [q] at S3; exact xcP_trans P4 S3
      | ok fl ρ3 =>
        rw [q] at S3
        cases fl with
        | nx => exact again S3
        | ct => exact again S3
        | bk => exact fun σ3 H3 P5 => S3 σ3 H3 (P4.trans P5)
        | rt r => exact fun σ3 H3 v P5 k => S3 σ3 H3 v (P4.trans P5) (rtb_trans P4 k)
  · have e : i = a.items.length := by omega
    subst e
    rw [List.drop_length] at S3
    exact .inl ⟨wk.stops H' subA, S3 σ' H' P⟩
/-! ### while -/
def whL (t : M Bool) (body : S) : Nat → S
  | 0 => fun _ => .bad
  | n + 1 => bnd t fun c => if c = true then (fun ρ => match body ρ with
    | .ok .nx ρ2 => whL t body n ρ2
    | .ok .ct ρ2 => whL t body n ρ2
    | .ok .bk ρ2 => .ok .nx ρ2
    | r => r) else ret .nx
theorem es_while {c : Expr} {body : List Stmt} {t : M Bool} {f : S} (fuel : Rho → Nat) (hp : PassesOwn (model X.prog X.w) X.A X.env X.xe) (hc : ET X W c t) (hb : ESs X W body f) : ES X W (.While c body [] pos) (fun ρ => whL t f (fuel ρ) ρ) := ps_imp (ps_while hp hc hb) fun D σ H ⟨Z, ρ, E, S⟩ => by
  refine ⟨fun m σ' H' => ∃ ρ', SPost X.K Z σ H ρ σ' H' ρ' ∧ (whL t f m ρ').sat (flP X.K Z σ H ρ D) (xcP X.K X.mg Z σ H ρ W), ⟨_, ρ, .refl E, S⟩, ?_⟩
  rintro m σ' H' ⟨ρ', P, S1⟩
  cases m with
  | zero => exact S1.elim
  | succ m =>
    refine rd_of P.rel (sat_bnd S1) (fun a ρ1 v1 H1 P1 R1 S2 => ?_) fun x ρ1 cls d H1 P1 X1 e1 => xc_ev P e1 P1 X1
    obtain rfl : v1 = a := R1
    cases v1 with
    | false => rw [if_neg Bool.false_ne_true] at S2 ⊢; exact S2 σ' H1 (P.trans P1.sp)
    | true =>
      rw [if_pos rfl] at S2 ⊢
      have P2 := P.trans P1.sp
      refine ⟨fun σ'' H'' => ∃ ρ'', SPost X.K Z σ H ρ σ'' H'' ρ'' ∧ (whL t f m ρ'').sat (flP X.K Z σ H ρ D) (xcP X.K X.mg Z σ H ρ W), fun σ'' H'' q => ⟨m, Nat.lt_succ_self _, q⟩, Z, ρ1, P2.rel, ?_⟩
      cases q : f ρ1 with
      | bad => simp only [q] at S2; exact S2.elim
      | exc x ρ3 => simp only [q] at S2; exact xcP_trans P2 S2
      | ok fl ρ3 =>
        simp only [q] at S2
        cases fl with
        | nx => exact fun σ3 H3 P5 => ⟨_, P2.trans P5, S2⟩
        | ct => exact fun σ3 H3 P5 => ⟨_, P2.trans P5, S2⟩
        | bk => exact fun σ3 H3 P5 => S2 σ3 H3 (P2.trans P5)
        | rt r => exact fun σ3 H3 v P5 k => S2 σ3 H3 v (P2.trans P5) (rtb_trans P2 k)
/-! ### comprehensions -/
def toUn (_ : Slot) : Slot := .un
def lcL (vs : List Nat) (b : Bd) (t : M Bool) (el : M RV) : List D → M (List D)
  | [] => ret []
  | d :: ds => fun ρ => match b d ρ with
    | none => .bad
    | some ρ1 => (match t ρ1 with
      | .ok true ρ2 => (match bnd el esc ρ2 with
        | .ok y ρ3 => (match lcL vs b t el ds (onS toUn vs ρ3) with
          | .ok ys ρ4 => .ok (y :: ys) ρ4
          | _ => .bad)
        | _ => .bad)
      | .ok false ρ2 => lcL vs b t el ds (onS toUn vs ρ2)
      | _ => .bad)
def vsOk (vs : List Nat) (ρ : Rho) : Bool := vs.all fun v => match ρ[v]? with
  | some (.own _ _ _) => false
  | _ => true
/-- the block's own names as they were -/
def backS (vs : List Nat) (ρ0 ρ : Rho) : Rho := ρ.mapIdx fun i s => if vs.contains i = true then (ρ0[i]?.getD .un) else s
theorem back_get {vs : List Nat} {ρ0 ρ : Rho} {i : Nat} : (backS vs ρ0 ρ)[i]? = (ρ[i]?).map fun s => if vs.contains i = true then (ρ0[i]?.getD .un) else s := by
  unfold backS
  rw [List.getElem?_mapIdx]
def eLc (vs : List Nat) (src : M Src) (b : Bd) (t : M Bool) (el : M RV) : M RV := bnd src fun s ρ =>
  if vsOk vs ρ = true ∧ s.items.length ≤ lim then (match lcL vs b t el s.items (onS toUn vs (onS lk1 s.js ρ)) with
    | .ok ys ρ' => .ok (.tmp (.lst ys)) (onS ul1 s.js (backS vs ρ ρ'))
    | _ => .bad) else .bad
abbrev ETs (X : Cx) (W : WX) (es : List Expr) (f : M Bool) : Prop := PTs X es (rdT X.K X.mg W f)
theorem ets_nil : ETs X W [] (ret true) := ⟨fun pins s σ H Q I ⟨Z, ρ, E, S⟩ => pts_nil.run pins s σ H Q I (S true H (.refl E) rfl)⟩
theorem ets_one {e : Expr} {f : M Bool} (h : ET X W e f) : ETs X W [e] f := pts_one h
theorem wipe_in {σ : L2.St} : ∀ {vs : List Nat} {i : Nat}, i ∈ vs → (wipe σ vs)[i]? = (σ[i]?).map fun _ => none
  | v :: vs, i, h => by
    unfold wipe
    by_cases e : v = i
    · subst e
      cases q : σ[v]? with
      | none =>
        have : σ.length ≤ v := by simpa using q
        rw [List.getElem?_eq_none (by rw [List.length_set, wipe_length]; exact this)]
        rfl
      | some x =>
        have : v < σ.length := (List.getElem?_eq_some_iff.mp q).1
        rw [List.getElem?_set_self (by rw [wipe_length]; exact this)]
        rfl
    · rw [List.getElem?_set_ne e]
      rcases List.mem_cons.mp h with h | h
      · exact absurd h.symm e
      · exact wipe_in h
theorem wipe_out {σ : L2.St} : ∀ {vs : List Nat} {i : Nat}, i ∉ vs → (wipe σ vs)[i]? = σ[i]?
  | [], _, _ => rfl
  | v :: vs, i, h => by
    unfold wipe
    have e : v ≠ i := fun e => h (by simp [e])
    rw [List.getElem?_set_ne e]
    exact wipe_out fun z => h (List.mem_cons_of_mem _ z)
theorem cont_mem {vs : List Nat} {i : Nat} : vs.contains i = true ↔ i ∈ vs := by simp
theorem wipe_own {vs : List Nat} {σ : L2.St} {ρ : Rho} {i : Nat} {a : Addr} (h : OwnAt (wipe σ vs) (onS toUn vs ρ) i a) : i ∉ vs ∧ OwnAt σ ρ i a := by
  obtain ⟨h1, io, lk, c, h2⟩ := h
  obtain ⟨t, h3, ⟨h4, h5⟩ | ⟨h4, h5⟩⟩ := on_inv h2
  · cases h5
  · have nm : i ∉ vs := fun z => by rw [cont_mem.mpr z] at h4; cases h4
    rw [wipe_out nm] at h1
    exact ⟨nm, h1, io, lk, c, h5 ▸ h3⟩
section
variable {K : PySem.W.Frag} {Z : Addr → Prop} {σ σ' : L2.St} {H H' H1 Hn : Hp} {ρ ρ' ρ1 ρn : Rho}
theorem ERel.wipe (E : ERel K Z σ H ρ) (vs : List Nat) : ERel K Z (wipe σ vs) H (onS toUn vs ρ) := by
  have sub : Sub (hid H (Hd Z σ ρ)) (hid H (Hd Z (L2.wipe σ vs) (onS toUn vs ρ))) := hid_mono fun b o q m => ⟨q, fun z => m (z.elim .inl fun ⟨j, z⟩ => .inr ⟨j, (wipe_own z).2⟩)⟩
  refine ⟨by rw [wipe_length, on_len]; exact E.len, fun i j a h1 h2 => E.inj i j a (wipe_own h1).2 (wipe_own h2).2, fun i sl e => ?_, E.zok, fun i a io lk c e1 e2 => ?_⟩
  · obtain ⟨t, h3, ⟨h4, h5⟩ | ⟨h4, h5⟩⟩ := on_inv e
    · obtain ⟨ov, k1, k2⟩ := E.slot i _ h3
      subst h5
      exact ⟨none, by rw [wipe_in (cont_mem.mp h4), k1]; rfl, trivial⟩
    · obtain ⟨ov, k1, k2⟩ := E.slot i _ h3
      subst h5
      have nm : i ∉ vs := fun z => by rw [cont_mem.mpr z] at h4; cases h4
      refine ⟨ov, by rw [wipe_out nm]; exact k1, ?_⟩
      cases sl with
      | un => trivial
      | val d => obtain ⟨w, q1, q2⟩ := k2; exact ⟨w, q1, dp_mono sub q2⟩
      | own io lk c => obtain ⟨b, q1, q2⟩ := k2; exact ⟨b, q1, cell_mono sub (fun o q => q) q2⟩
  · obtain ⟨nm, h1, io', lk', c', h2⟩ := wipe_own ⟨e1, io, lk, c, e2⟩
    obtain ⟨t, h3, ⟨h4, h5⟩ | ⟨h4, h5⟩⟩ := on_inv e2
    · cases h5
    · exact E.zin i a io lk c h1 (h5 ▸ h3)
/-- a hidden place that no slot owns is written -/
theorem ERel.updZ (E : ERel K Z σ H ρ) {p : Addr} {o : HO} (hz : Z p) (no : ¬ Own σ ρ p) : ERel K Z σ (upd H p o) ρ := by
  have sub : Sub (hid H (Hd Z σ ρ)) (hid (upd H p o) (Hd Z σ ρ)) := hid_mono fun b u q m => ⟨by
    have ne : b ≠ p := fun e => m (.inl (e ▸ hz))
    rw [upd_ne ne]; exact q, m⟩
  refine ⟨E.len, E.inj, fun i sl e => ?_, fun a z => ?_, E.zin⟩
  · obtain ⟨ov, k1, k2⟩ := E.slot i sl e
    refine ⟨ov, k1, ?_⟩
    cases sl with
    | un => trivial
    | val d => obtain ⟨w, q1, q2⟩ := k2; exact ⟨w, q1, dp_mono sub q2⟩
    | own io lk c =>
      obtain ⟨b, q1, q2⟩ := k2
      subst q1
      refine ⟨b, rfl, cell_mono sub (fun u q => ?_) q2⟩
      have ne : b ≠ p := fun z => no (z ▸ ⟨i, k1, io, lk, c, e⟩)
      rw [upd_ne ne]
      exact q
  · by_cases e : a = p
    · subst e; exact ⟨o, upd_same⟩
    · rw [upd_ne e]; exact E.zok a z
/-- the block is left: its own names are as they were -/
theorem lc_back {vs : List Nat} (E1 : ERel K Z σ H1 ρ1) (hv : vsOk vs ρ1 = true) {js : List Nat} (hl : Locks js ρ1) {D : Addr} (nD : H1 D = none) (En : ERel K (fun b => Z b ∨ b = D) (wipe σ vs) Hn ρn)
    (fr : ∀ b o, H1 b = some o → ¬ Mut σ (onS lk1 js ρ1) b → Hn b = some o) (ev : Evos (onS toUn vs (onS lk1 js ρ1)) ρn) :
    ERel K (fun b => Z b ∨ b = D) σ Hn (onS ul1 js (backS vs ρ1 ρn)) ∧ Evos ρ1 (onS ul1 js (backS vs ρ1 ρn)) ∧ ∀ b, Own σ (onS ul1 js (backS vs ρ1 ρn)) b → Own (wipe σ vs) ρn b := by
  have nv : ∀ {i : Nat} {io lk c}, ρ1[i]? = some (.own io lk c) → i ∉ vs := fun {i io lk c} e z => by
    have := List.all_eq_true.mp hv i z
    simp only [e] at this
    cases this
  have len : ρ1.length = ρn.length := by rw [← ev.1, on_len, on_len]
  -- the slots behind it
  have at' : ∀ i s, (onS ul1 js (backS vs ρ1 ρn))[i]? = some s → (i ∈ vs ∧ ρ1[i]? = some s ∧ ∀ io lk c, s ≠ .own io lk c) ∨ (i ∉ vs ∧ ∃ t, ρn[i]? = some t ∧ s = (if js.contains i = true then ul1 t else t)) := fun i s e => by
    rw [on_get, back_get] at e
    cases q : ρn[i]? with
    | none => rw [q] at e; cases e
    | some t =>
      rw [q] at e
      simp only [Option.map_some] at e
      by_cases hi : i ∈ vs
      · have hlt : i < ρ1.length := by rw [len]; exact (List.getElem?_eq_some_iff.mp q).1
        have c1 := cont_mem.mpr hi
        have e1 : ρ1[i]? = some ρ1[i] := List.getElem?_eq_getElem hlt
        have no : ∀ io lk c, ρ1[i] ≠ .own io lk c := fun io lk c z => nv (e1.trans (congrArg some z)) hi
        simp only [c1, if_true, e1, Option.getD_some] at e
        have e2 : s = ρ1[i] := by
          have := Option.some.inj e
          rw [← this]
          split
          · cases z : ρ1[i] with
            | un => rfl
            | val d => rfl
            | own io lk c => exact absurd z (no io lk c)
          · rfl
        exact .inl ⟨hi, by rw [e1, e2], fun io lk c => by rw [e2]; exact no io lk c⟩
      · have c1 : vs.contains i = false := by
          cases z : vs.contains i with
          | false => rfl
          | true => exact absurd (cont_mem.mp z) hi
        simp only [c1, Bool.false_eq_true, if_false] at e
        exact .inr ⟨hi, t, rfl, (Option.some.inj e).symm⟩
  have own' : ∀ i a, OwnAt σ (onS ul1 js (backS vs ρ1 ρn)) i a → OwnAt (wipe σ vs) ρn i a := fun i a ⟨h1, io, lk, c, h2⟩ => by
    rcases at' i _ h2 with ⟨_, _, z⟩ | ⟨hi, t, h3, h4⟩
    · exact absurd rfl (z io lk c)
    · refine ⟨by rw [wipe_out hi]; exact h1, ?_⟩
      cases t with
      | un => split at h4 <;> cases h4
      | val d => split at h4 <;> cases h4
      | own io' lk' c' => exact ⟨_, _, _, h3⟩
  have sub : Sub (hid Hn (Hd (fun b => Z b ∨ b = D) (wipe σ vs) ρn)) (hid Hn (Hd (fun b => Z b ∨ b = D) σ (onS ul1 js (backS vs ρ1 ρn)))) := hid_mono fun b o q m => ⟨q, fun z => m (z.elim .inl fun ⟨j, z⟩ => .inr ⟨j, own' j b z⟩)⟩
  have ownB : ∀ b, Own (wipe σ vs) ρn b → Own σ ρ1 b := fun b z => by
    obtain ⟨i, z⟩ := ev.owns z
    exact ⟨i, alike_own (alike_symm alike_lk) (wipe_own z).2⟩
  refine ⟨⟨?_, fun i j a h1 h2 => En.inj i j a (own' i a h1) (own' j a h2), fun i sl e => ?_, En.zok, fun i a io lk c e1 e2 => ?_⟩, ⟨?_, fun i s e => ?_⟩, fun b ⟨i, z⟩ => ⟨i, own' i b z⟩⟩
  · rw [on_len, backS, List.length_mapIdx, ← len]; exact E1.len
  · rcases at' i sl e with ⟨hi, h1, no⟩ | ⟨hi, t, h1, h2⟩
    · obtain ⟨ov, k1, k2⟩ := E1.slot i sl h1
      refine ⟨ov, k1, ?_⟩
      cases sl with
      | un => trivial
      | val d =>
        obtain ⟨w, q1, q2⟩ := k2
        refine ⟨w, q1, dp_mono (hid_mono fun b o q m => ⟨fr b o q fun z => m (.inr (lock_mut z).own), fun z => ?_⟩) q2⟩
        rcases z with (z | z) | ⟨j, z⟩
        · exact m (.inl z)
        · rw [z, nD] at q; cases q
        · exact m (.inr (ownB b ⟨j, own' j b z⟩))
      | own io lk c => exact absurd rfl (no io lk c)
    · obtain ⟨ov, k1, k2⟩ := En.slot i t h1
      rw [wipe_out hi] at k1
      refine ⟨ov, k1, ?_⟩
      subst h2
      cases t with
      | un => split <;> trivial
      | val d =>
        obtain ⟨w, q1, q2⟩ := k2
        have : SlotOk K (hid Hn (Hd (fun b => Z b ∨ b = D) σ (onS ul1 js (backS vs ρ1 ρn)))) Hn ov (.val d) := ⟨w, q1, dp_mono sub q2⟩
        split <;> exact this
      | own io lk c =>
        obtain ⟨b, q1, q2⟩ := k2
        have : ∀ lk, SlotOk K (hid Hn (Hd (fun b => Z b ∨ b = D) σ (onS ul1 js (backS vs ρ1 ρn)))) Hn ov (.own io lk c) := fun lk => ⟨b, q1, cell_mono sub (fun o q => q) q2⟩
        split
        · cases lk
          · exact this _
          · exact this _
        · exact this _
  · rcases at' i _ e2 with ⟨_, _, no⟩ | ⟨hi, t, h1, h2⟩
    · exact absurd rfl (no io lk c)
    · cases t with
      | un => split at h2 <;> cases h2
      | val d => split at h2 <;> cases h2
      | own io' lk' c' =>
        have : io = io' := by
          split at h2
          · cases lk' <;> (cases h2; rfl)
          · cases h2; rfl
        subst this
        exact En.zin i a io lk' c' (by rw [wipe_out hi]; exact e1) h1
  · rw [on_len, backS, List.length_mapIdx, ← len]
  · have hlt : i < ρn.length := by rw [← len]; exact (List.getElem?_eq_some_iff.mp e).1
    have hb : i < (onS ul1 js (backS vs ρ1 ρn)).length := by rw [on_len, backS, List.length_mapIdx]; exact hlt
    refine ⟨_, List.getElem?_eq_getElem hb, ?_⟩
    rcases at' i _ (List.getElem?_eq_getElem hb) with ⟨hi, h1, no⟩ | ⟨hi, t, h1, h2⟩
    · rw [e] at h1
      rw [← Option.some.inj h1]
      exact .refl _
    · rw [h2]
      have c1 : vs.contains i = false := by
        cases z : vs.contains i with
        | false => rfl
        | true => exact absurd (cont_mem.mp z) hi
      cases cj : js.contains i with
      | false =>
        obtain ⟨s', h3, v⟩ := ev.2 i s (by rw [on_get, on_get, e, c1, cj]; rfl)
        rw [h1] at h3
        cases h3
        exact v
      | true =>
        obtain ⟨io, c, h4⟩ := hl i cj
        rw [e] at h4
        cases h4
        obtain ⟨s', h3, v⟩ := ev.2 i (.own io true c) (by rw [on_get, on_get, e, c1, cj]; rfl)
        rw [h1] at h3
        cases h3
        cases v
        exact .refl _
end
end
end Ev

set_option Elab.async false
set_option linter.all false
set_option maxRecDepth 100000
set_option maxHeartbeats 4000000
set_option autoImplicit false
/-! comprehensions: the rule -/
namespace Ev
open PySem L2 PySem.Spec PyProof.Rows
abbrev W0 : WX := fun _ _ _ _ => False
section
variable {X : Cx} {W : WX} {pos : Pos}
theorem lc_read {K : PySem.W.Frag} {mg : Str → Option Value} {vs js : List Nat} {src : M Src} {b : Bd} {t : M Bool} {el : M RV} {σ : L2.St} {H : Hp} {Q : VK} (hjs : ∀ j ∈ js, j ∈ vs) (w : rd K mg W (eLc vs src b t el) σ H Q) :
    tLc (rdG K mg W (tI K) src) (gRd K b js) (rdT K mg W0 t) (rd K mg W0 el) vs σ H Q := by
  obtain ⟨Z, ρ, E, S⟩ := w
  refine rd_of E (sat_bnd S) (fun a ρ1 J H1 P1 R1 S1 => ?_) fun x ρ1 cls d H1 P1 X1 e1 => e1 cls d H1 P1 X1
  obtain ⟨L, wk⟩ := R1
  intro D nD
  by_cases hk : vsOk vs ρ1 = true ∧ a.items.length ≤ lim
  case neg => rw [if_neg hk] at S1; exact S1.elim
  rw [if_pos hk] at S1
  obtain ⟨hv, hlen⟩ := hk
  have nZ : ¬ Z D := fun z => by
    obtain ⟨o, e⟩ := P1.rel.zok D z
    rw [nD] at e; cases e
  -- the block's start
  have sm0 : Same H1 (upd H1 D (.lst [])) := same_upd nD
  have EL : ERel K Z σ H1 (onS lk1 a.js ρ1) := P1.rel.alike alike_lk
  have EL' : ERel K (fun c => Z c ∨ c = D) σ (upd H1 D (.lst [])) (onS lk1 a.js ρ1) := EL.hide sm0 nD ⟨_, upd_same⟩
  have Ew := EL'.wipe vs
  have noD : ∀ {ρ' : Rho}, Evos (onS toUn vs (onS lk1 a.js ρ1)) ρ' → ¬ Own (wipe σ vs) ρ' D := fun {ρ'} ev z => by
    obtain ⟨i, z⟩ := ev.owns z
    obtain ⟨o, e⟩ := P1.rel.there (.inr ⟨i, alike_own (alike_symm alike_lk) (wipe_own z).2⟩)
    rw [nD] at e; cases e
  have mutW : ∀ {ρ' : Rho}, Evos (onS toUn vs (onS lk1 a.js ρ1)) ρ' → ∀ c, Mut (wipe σ vs) ρ' c → Mut σ (onS lk1 a.js ρ1) c := fun {ρ'} ev c z => by
    obtain ⟨i, io, c', h1, h2⟩ := ev.mut z
    obtain ⟨nm, o⟩ := wipe_own ⟨h1, io, false, c', h2⟩
    obtain ⟨t, h3, ⟨h4, h5⟩ | ⟨h4, h5⟩⟩ := on_inv h2
    · cases h5
    · exact ⟨i, io, c', o.1, h5 ▸ h3⟩
  -- the invariant
  let fin : List PyData → Rho → Prop := fun zs ρ' => (Res.ok (RV.tmp (.lst zs)) (onS ul1 a.js (backS vs ρ1 ρ'))).sat (fun a ρ' => ∀ b H', EPost K Z σ H ρ H' ρ' → tV K Z σ H H' ρ' b a → Q b H') fun x ρ' => ∀ cls d H', EPost K Z σ H ρ H' ρ' → XcOk mg x cls d H' → W cls d σ H'
  let Pv : Nat → Hp → Prop := fun i H' => ∃ ρi acc ys, ERel K (fun c => Z c ∨ c = D) (wipe σ vs) H' ρi ∧ (∀ c o, H1 c = some o → ¬ Mut σ (onS lk1 a.js ρ1) c → H' c = some o) ∧ (∀ c o, H1 c = some o → ∃ o', H' c = some o') ∧ Evos (onS toUn vs (onS lk1 a.js ρ1)) ρi ∧
    H' D = some (.lst acc) ∧ DpAll K (hid H' (Hd (fun c => Z c ∨ c = D) (wipe σ vs) ρi)) acc ys ∧ acc.length ≤ i ∧ (lcL vs b t el (a.items.drop i) ρi).sat (fun zs ρ' => fin (ys ++ zs) ρ') fun _ _ => False
  have start : Pv 0 (upd H1 D (.lst [])) := by
    refine ⟨_, [], [], Ew, fun c o e _ => sm0 c o e, fun c o e => ⟨o, sm0 c o e⟩, .refl _, upd_same, .nil, Nat.le_refl _, ?_⟩
    rw [List.drop_zero]
    cases q : lcL vs b t el a.items (onS toUn vs (onS lk1 a.js ρ1)) with
    | bad => rw [q] at S1; exact S1.elim
    | exc x ρ' => rw [q] at S1; exact S1.elim
    | ok zs ρ' => rw [q] at S1; exact S1
  refine ⟨fun i m H' => m = a.items.length - i ∧ i ≤ a.items.length ∧ Pv i H', ⟨_, rfl, Nat.zero_le _, start⟩, ?_⟩
  rintro i m H' ⟨rfl, hi, ρi, acc, ys, Ei, fr, dm, ev, hD, hacc, hal, S3⟩
  have subA : Sub (hid H1 (Mut σ (onS lk1 a.js ρ1))) H' := fun c o q => fr c o (hid_iff.mp q).1 (hid_iff.mp q).2
  have ownB : ∀ c, Own (wipe σ vs) ρi c → Own σ ρ1 c := fun c z => by
    obtain ⟨i, z⟩ := ev.owns z
    exact ⟨i, alike_own (alike_symm alike_lk) (wipe_own z).2⟩
  have subB : Sub (hid H1 (Hd Z σ ρ1)) (hid H' (Hd (fun c => Z c ∨ c = D) (wipe σ vs) ρi)) := hid_mono fun c o q m => ⟨fr c o q fun z => m (.inr (lock_mut z).own), fun z => by
    rcases z with (z | z) | z
    · exact m (.inl z)
    · rw [z, nD] at q; cases q
    · exact m (.inr (ownB c z))⟩
  by_cases hlt : i < a.items.length
  · rw [List.drop_eq_getElem_cons hlt] at S3
    refine .inr ⟨wk.goes i H' hlt subA, fun H'' => i + 1 ≤ a.items.length ∧ Pv (i + 1) H'', fun H'' q => ⟨_, by omega, rfl, q⟩, fun x H2 y => ?_⟩
    obtain ⟨sm, d, hd, hx⟩ := wk.yields i x H' H2 _ hlt subA subB hid_sub y
    rw [List.getElem?_eq_getElem hlt] at hd
    have hd := Option.some.inj hd
    subst hd
    have Pa := EPost.same Ei sm
    unfold lcL at S3
    cases hb : b a.items[i] ρi with
    | none => simp only [hb] at S3; exact S3.elim
    | some ρ2 =>
      simp only [hb] at S3
      refine ⟨_, ρi, a.items[i], ρ2, Pa.rel, dp_mono (same_key Ei sm) hx, hb, fun σ2 P3 o3 => ?_⟩
      have wσ : wipe σ2 vs = wipe σ vs := by
        apply List.ext_getElem?
        intro j
        by_cases hj : j ∈ vs
        · rw [wipe_in hj, wipe_in hj]
          have l1 : σ2.length = σ.length := by rw [o3.1, wipe_length]
          by_cases hjl : j < σ.length
          · rw [List.getElem?_eq_getElem hjl, List.getElem?_eq_getElem (by rw [l1]; exact hjl)]; rfl
          · rw [List.getElem?_eq_none (by omega), List.getElem?_eq_none (by omega)]
        · rw [wipe_out hj, wipe_out hj, (o3.2 j fun z => hj (hjs j z)).1, wipe_out hj]
      refine ⟨wσ, ?_⟩
      -- the turn's end: the own names forgotten, the rest as it is
      have done : ∀ {H5 : Hp} {ρ5 : Rho}, EPost K (fun c => Z c ∨ c = D) σ2 H2 ρ2 H5 ρ5 → ERel K (fun c => Z c ∨ c = D) (wipe σ vs) H5 (onS toUn vs ρ5) ∧ (∀ c o, H1 c = some o → ¬ Mut σ (onS lk1 a.js ρ1) c → H5 c = some o) ∧ (∀ c o, H1 c = some o → ∃ o', H5 c = some o') ∧
          Evos (onS toUn vs (onS lk1 a.js ρ1)) (onS toUn vs ρ5) ∧ H5 D = some (.lst acc) ∧ DpAll K (hid H5 (Hd (fun c => Z c ∨ c = D) (wipe σ vs) (onS toUn vs ρ5))) acc ys ∧
          Sub (hid H5 (Hd (fun c => Z c ∨ c = D) σ2 ρ5)) (hid H5 (Hd (fun c => Z c ∨ c = D) (wipe σ vs) (onS toUn vs ρ5))) := fun {H5 ρ5} P5 => by
        have Ps := (Pa.sp.trans P3).trans P5.sp
        have E5 := P5.rel.wipe vs
        rw [wσ] at E5
        have sub5 : Sub (hid H5 (Hd (fun c => Z c ∨ c = D) σ2 ρ5)) (hid H5 (Hd (fun c => Z c ∨ c = D) (wipe σ vs) (onS toUn vs ρ5))) := hid_mono fun c o q m => ⟨q, fun z => m (z.elim .inl fun ⟨j, z⟩ => .inr ⟨j, by rw [← wσ] at z; exact (wipe_own z).2⟩)⟩
        refine ⟨E5, fun c o q m => Ps.fr c o (fr c o q m) fun z => m (mutW ev c z), fun c o q => ?_, ⟨?_, fun j s e => ?_⟩, Ps.fr D _ hD fun z => noD ev z.own, dps_mono (fun c o q => sub5 c o (Ps.sub c o q)) hacc, sub5⟩
        · obtain ⟨o1, q1⟩ := dm c o q
          exact Ps.dom c o1 q1
        · have l1 := P3.rel.len
          have l2 := P5.rel.len
          have l3 := Ei.len
          rw [on_len, on_len, on_len]
          have l4 := ev.1
          rw [on_len, on_len] at l4
          have l5 := o3.1
          omega
        · by_cases hj : j ∈ vs
          · have c1 := cont_mem.mpr hj
            have hlt : j < ρ5.length := by
              have l0 := (List.getElem?_eq_some_iff.mp e).1
              rw [on_len, on_len] at l0
              have l4 := ev.1
              rw [on_len, on_len] at l4
              have l2 := P5.rel.len
              have l3 := Ei.len
              have l5 := o3.1
              omega
            refine ⟨.un, by rw [on_get, List.getElem?_eq_getElem hlt, c1]; rfl, ?_⟩
            rw [on_get, c1] at e
            cases q : (onS lk1 a.js ρ1)[j]? with
            | none => rw [q] at e; cases e
            | some s' => rw [q] at e; cases e; exact .refl _
          · have c1 : vs.contains j = false := by
              cases z : vs.contains j with
              | false => rfl
              | true => exact absurd (cont_mem.mp z) hj
            obtain ⟨s1, e1, v1⟩ := ev.2 j s e
            have e2 : ρ2[j]? = some s1 := by rw [(o3.2 j fun z => hj (hjs j z)).2]; exact e1
            obtain ⟨s3, e3, v3⟩ := P5.evo.2 j s1 e2
            exact ⟨s3, by rw [on_get, e3, c1]; rfl, v1.trans v3⟩
      cases qt : t ρ2 with
      | bad => simp only [qt] at S3; exact S3.elim
      | exc x ρ3 => simp only [qt] at S3; exact S3.elim
      | ok bb ρ3 =>
        refine ⟨_, ρ2, P3.rel, ?_⟩
        rw [qt]
        intro bv H3 P5 R5
        obtain rfl : bv = bb := R5
        cases bv with
        | false =>
          simp only [qt] at S3
          rw [if_neg Bool.false_ne_true]
          obtain ⟨g1, g2, g3, g4, g5, g6, _⟩ := done P5
          exact ⟨hlt, _, acc, ys, g1, g2, g3, g4, g5, g6, Nat.le_succ_of_le hal, S3⟩
        | true =>
          simp only [qt] at S3
          rw [if_pos rfl]
          cases qe : bnd el esc ρ3 with
          | bad => simp only [qe] at S3; exact S3.elim
          | exc x ρ4 => simp only [qe] at S3; exact S3.elim
          | ok dy ρ5 =>
            simp only [qe] at S3
            refine ⟨_, ρ3, P5.rel, ?_⟩
            unfold bnd at qe
            cases ql : el ρ3 with
            | bad => rw [ql] at qe; cases qe
            | exc x ρ4 => rw [ql] at qe; cases qe
            | ok rv ρ4 =>
              rw [ql] at qe
              intro v H4 P6 R6
              obtain ⟨P7, h7⟩ := esc_ok P6.rel R6 qe
              obtain ⟨g1, g2, g3, g4, g5, g6, g7⟩ := done ((P5.trans P6).trans P7)
              have upS : ∀ c o, c ≠ D → H4 c = some o → (upd H4 D (.lst (acc ++ [v]))) c = some o := fun c o n q => by rw [upd_ne n]; exact q
              have neD : ∀ c o, H1 c = some o → c ≠ D := fun c o q z => by rw [z, nD] at q; cases q
              have subU : Sub (hid H4 (Hd (fun c => Z c ∨ c = D) (wipe σ vs) (onS toUn vs ρ5))) (hid (upd H4 D (.lst (acc ++ [v]))) (Hd (fun c => Z c ∨ c = D) (wipe σ vs) (onS toUn vs ρ5))) := hid_mono fun c o q m => ⟨upS c o (fun z => m (.inl (.inr z))) q, m⟩
              refine ⟨acc, g5, ?_, hlt, _, acc ++ [v], ys ++ [dy], g1.updZ (.inr rfl) (noD g4), fun c o q m => upS c o (neD c o q) (g2 c o q m), fun c o q => ?_, g4, upd_same, dps_app (dps_mono subU g6) (.cons (dp_mono (fun c o q => subU c o (g7 c o q)) h7) .nil), by rw [List.length_append]; simp; omega, ?_⟩
              · have := lim_line hlen
                omega
              · obtain ⟨o', q'⟩ := g3 c o q
                exact ⟨o', upS c o' (neD c o q) q'⟩
              · cases qr : lcL vs b t el (a.items.drop (i + 1)) (onS toUn vs ρ5) with
                | bad => simp only [qr] at S3; exact S3.elim
                | exc x ρ4 => simp only [qr] at S3; exact S3.elim
                | ok zs ρ6 =>
                  simp only [qr] at S3
                  show fin ((ys ++ [dy]) ++ zs) ρ6
                  rw [List.append_assoc]
                  exact S3
  · have e : i = a.items.length := by omega
    subst e
    rw [List.drop_length] at S3
    refine .inl ⟨wk.stops H' subA, ?_⟩
    obtain ⟨b1, b2, b3⟩ := lc_back P1.rel hv L nD Ei fr ev
    have noEnd : ¬ Own σ (onS ul1 a.js (backS vs ρ1 ρi)) D := fun z => noD ev (b3 D z)
    have S4 : fin (ys ++ []) ρi := S3
    rw [List.append_nil] at S4
    refine S4 (.ref D) H' (P1.trans ⟨b1.unhide noEnd, fun c o q m => fr c o q fun z => m (lock_mut z), dm, b2⟩) ⟨D, rfl, P1.fresh nD, nZ, noEnd, b1, acc, hD, dps_mono (hid_mono fun c o q m => ⟨q, fun z => m ?_⟩) hacc⟩
    rcases z with (z | z) | z
    · exact .inl (.inl z)
    · exact .inr (b3 c z)
    · exact .inl (.inr z)
theorem ev_lc {elt tg iter : Expr} {ifs : List Expr} {scope : Scope} {own : List (Str × Nat)} {src : M Src} {b : Bd} {js : List Nat} {t : M Bool} {el : M RV} (hc : X.calm = true) (hN : X.N.Nodup) (ok : BlkOk X.N X.env.scope scope own) (hjs : ∀ j ∈ js, j ∈ own.map (·.2)) (hi : EI X W tg iter src)
    (hg : ∀ (s : Shared) (H : Hp) (C : Addr) (cl : List (Str × Addr)) (fp : List Addr), TB (X.blk s H scope (compEnvC scope cl C X.env) fp) tg b js) (ht : ∀ (s : Shared) (H : Hp) (C : Addr) (cl : List (Str × Addr)) (fp : List Addr), ETs (X.blk s H scope (compEnvC scope cl C X.env) fp) W0 ifs t)
    (he : ∀ (s : Shared) (H : Hp) (C : Addr) (cl : List (Str × Addr)) (fp : List Addr), EV (X.blk s H scope (compEnvC scope cl C X.env) fp) W0 elt el) (hs : ∀ x, foldedSetIterable iter X.env x = pure x := by intro _; rfl) :
    EV X W (.ListComp elt [⟨tg, iter, ifs, 0⟩] scope pos) (eLc (own.map (·.2)) src b t el) := pe_imp (pe_lc hc hN hi ok hg ht he hs) fun σ H Q w => lc_read hjs w
theorem es_setLc {i : Nat} {y : Str} {py : Pos} {elt tg iter : Expr} {ifs : List Expr} {scope : Scope} {own : List (Str × Nat)} {spos : Pos} {src : M Src} {b : Bd} {js : List Nat} {t : M Bool} {el : M RV} (hc : X.calm = true) (hN : X.N.Nodup) (hy : X.N[i]? = some y) (hyl : X.env.scope.names.lookup y = some .local)
    (hsw : swapsWith (.ListComp elt [⟨tg, iter, ifs, 0⟩] scope pos) (some (.Name y py)) spos.line X.env = pure true) (ok : BlkOk X.N X.env.scope scope own) (hjs : ∀ j ∈ js, j ∈ own.map (·.2)) (hi : EI X W tg iter src)
    (hg : ∀ (s : Shared) (H : Hp) (C : Addr) (cl : List (Str × Addr)) (fp : List Addr), TB (X.blk s H scope (compEnvC scope cl C X.env) fp) tg b js) (ht : ∀ (s : Shared) (H : Hp) (C : Addr) (cl : List (Str × Addr)) (fp : List Addr), ETs (X.blk s H scope (compEnvC scope cl C X.env) fp) W0 ifs t)
    (he : ∀ (s : Shared) (H : Hp) (C : Addr) (cl : List (Str × Addr)) (fp : List Addr), EV (X.blk s H scope (compEnvC scope cl C X.env) fp) W0 elt el) (hs : ∀ x, foldedSetIterable iter X.env x = pure x := by intro _; rfl) :
    ES X W (.Assign [.Name y py] (.ListComp elt [⟨tg, iter, ifs, 0⟩] scope pos) spos) (sSet i (eLc (own.map (·.2)) src b t el)) := ps_imp (ps_setLc hc hN hy hyl hsw hi ok hg ht he hs) fun D σ H w => lc_read hjs (rds_set w)
end
end Ev

set_option Elab.async false
set_option linter.all false
set_option maxRecDepth 100000
set_option maxHeartbeats 4000000
set_option autoImplicit false
/-! bodies of defs -/
namespace Ev
open PySem L2 PySem.Spec PyProof.Rows
/-- the parameters behind the body -/
def backP (ρ ρ' : Rho) : Rho := ρ.mapIdx fun i s => match s, ρ'[i]? with
  | .own true _ _, some (.own true lk c) => .own true lk c
  | s, _ => s
def bodyF (m : Nat) (f : S) : Fn := fun ρ => match f (ρ ++ List.replicate m .un) with
  | .ok .nx ρ' => .ok (.val .none) (backP ρ ρ')
  | .ok (.rt r) ρ' => .ok r (backP ρ ρ')
  | .exc x ρ' => .exc x (backP ρ ρ')
  | _ => .bad
theorem backP_get {ρ ρ' : Rho} {i : Nat} : (backP ρ ρ')[i]? = (ρ[i]?).map fun s => match s, ρ'[i]? with
  | .own true _ _, some (.own true lk c) => .own true lk c
  | s, _ => s := by
  unfold backP
  rw [List.getElem?_mapIdx]
section
variable {K : PySem.W.Frag} {Z Z' : Addr → Prop} {σ σ' : L2.St} {H H' : Hp} {ρ ρ' : Rho} {m : Nat} {v : V}
theorem own_app {i : Nat} {a : Addr} (hl : σ.length = ρ.length) (h : OwnAt (σ ++ List.replicate m none) (ρ ++ List.replicate m .un) i a) : OwnAt σ ρ i a := by
  obtain ⟨h1, io, lk, c, h2⟩ := h
  by_cases hi : i < ρ.length
  · rw [List.getElem?_append_left (by omega)] at h1
    rw [List.getElem?_append_left hi] at h2
    exact ⟨h1, io, lk, c, h2⟩
  · rw [List.getElem?_append_right (by omega), List.getElem?_replicate] at h2
    split at h2 <;> cases h2
theorem app_own {i : Nat} {a : Addr} (hl : σ.length = ρ.length) (h : OwnAt σ ρ i a) : OwnAt (σ ++ List.replicate m none) (ρ ++ List.replicate m .un) i a := by
  obtain ⟨h1, io, lk, c, h2⟩ := h
  have hi : i < ρ.length := (List.getElem?_eq_some_iff.mp h2).1
  exact ⟨by rw [List.getElem?_append_left (by omega)]; exact h1, io, lk, c, by rw [List.getElem?_append_left hi]; exact h2⟩
theorem mut_app' {a : Addr} (hl : σ.length = ρ.length) (h : Mut (σ ++ List.replicate m none) (ρ ++ List.replicate m .un) a) : Mut σ ρ a := by
  obtain ⟨i, io, c, h1, h2⟩ := h
  by_cases hi : i < ρ.length
  · rw [List.getElem?_append_left (by omega)] at h1
    rw [List.getElem?_append_left hi] at h2
    exact ⟨i, io, c, h1, h2⟩
  · rw [List.getElem?_append_right (by omega), List.getElem?_replicate] at h2
    split at h2 <;> cases h2
theorem ERel.app (E : ERel K Z σ H ρ) (m : Nat) : ERel K Z (σ ++ List.replicate m none) H (ρ ++ List.replicate m .un) := by
  have hl := E.len
  have sub : Sub (hid H (Hd Z σ ρ)) (hid H (Hd Z (σ ++ List.replicate m none) (ρ ++ List.replicate m .un))) := hid_mono fun b o q n => ⟨q, fun z => n (z.elim .inl fun ⟨j, z⟩ => .inr ⟨j, own_app hl z⟩)⟩
  refine ⟨by rw [List.length_append, List.length_append, List.length_replicate, List.length_replicate, hl], fun i j a h1 h2 => E.inj i j a (own_app hl h1) (own_app hl h2), fun i sl e => ?_, E.zok, fun i a io lk c e1 e2 => ?_⟩
  · by_cases hi : i < ρ.length
    · rw [List.getElem?_append_left hi] at e
      obtain ⟨ov, k1, k2⟩ := E.slot i sl e
      refine ⟨ov, by rw [List.getElem?_append_left (by omega)]; exact k1, ?_⟩
      cases sl with
      | un => trivial
      | val d => obtain ⟨w, q1, q2⟩ := k2; exact ⟨w, q1, dp_mono sub q2⟩
      | own io lk c => obtain ⟨b, q1, q2⟩ := k2; exact ⟨b, q1, cell_mono sub (fun o q => q) q2⟩
    · rw [List.getElem?_append_right (by omega), List.getElem?_replicate] at e
      split at e
      · rename_i hm
        cases e
        exact ⟨none, by rw [List.getElem?_append_right (by omega), List.getElem?_replicate, if_pos (by omega)], trivial⟩
      · cases e
  · obtain ⟨h1, io', lk', c', h2⟩ := own_app hl ⟨e1, io, lk, c, e2⟩
    have hi : i < ρ.length := (List.getElem?_eq_some_iff.mp h2).1
    rw [List.getElem?_append_left hi] at e2
    exact E.zin i a io lk c h1 e2
theorem par_io (p : ParOk ρ) {i : Nat} {io lk : Bool} {c : Cell} (h : ρ[i]? = some (.own io lk c)) : io = true ∧ lk = false := by
  rcases p i _ h with ⟨d, e⟩ | ⟨c', e⟩
  · cases e
  · cases e; exact ⟨rfl, rfl⟩
theorem backP_own (p : ParOk ρ) {i : Nat} {a : Addr} (h : OwnAt σ (backP ρ ρ') i a) : OwnAt σ ρ i a := by
  obtain ⟨h1, io, lk, c, h2⟩ := h
  rw [backP_get] at h2
  cases q : ρ[i]? with
  | none => rw [q] at h2; cases h2
  | some s =>
    rw [q] at h2
    rcases p i s q with ⟨d, rfl⟩ | ⟨c', rfl⟩
    · cases h2
    · exact ⟨h1, _, _, _, q⟩
theorem back_rel (E : ERel K Z σ H ρ) (p : ParOk ρ) (P : SPost K Z (σ ++ List.replicate m none) H (ρ ++ List.replicate m .un) σ' H' ρ') (R : ERel K Z' σ' H' ρ') (hz : ∀ b, Z' b → Z b ∨ H b = none) (hz2 : ∀ b, Z b → Z' b) :
    ERel K Z' σ H' (backP ρ ρ') ∧ ∀ i : Nat, (∃ d, ρ[i]? = some (.val d) ∧ (backP ρ ρ')[i]? = some (.val d)) ∨ (∃ c c', ρ[i]? = some (.own true false c) ∧ (backP ρ ρ')[i]? = some (.own true false c')) ∨ (ρ[i]? = none) := by
  have hl := E.len
  have at' : ∀ i : Nat, (∃ d, ρ[i]? = some (.val d) ∧ (backP ρ ρ')[i]? = some (.val d)) ∨ (∃ c c', ρ[i]? = some (.own true false c) ∧ (backP ρ ρ')[i]? = some (.own true false c') ∧ ρ'[i]? = some (.own true false c') ∧ σ'[i]? = σ[i]?) ∨ (ρ[i]? = none) := fun i => by
    cases q : ρ[i]? with
    | none => exact .inr (.inr rfl)
    | some s =>
      rcases p i s q with ⟨d, rfl⟩ | ⟨c, rfl⟩
      · exact .inl ⟨d, rfl, by rw [backP_get, q]; rfl⟩
      · have hi : i < ρ.length := (List.getElem?_eq_some_iff.mp q).1
        obtain ⟨c', h1, h2⟩ := P.io i false c (by rw [List.getElem?_append_left hi]; exact q)
        rw [List.getElem?_append_left (by omega)] at h2
        exact .inr (.inl ⟨c, c', rfl, by rw [backP_get, q, h1]; rfl, h1, h2⟩)
  have own2 : ∀ i a, OwnAt σ (backP ρ ρ') i a → OwnAt σ' ρ' i a := fun i a ⟨h1, io, lk, c, h2⟩ => by
    rcases at' i with ⟨d, _, z⟩ | ⟨c1, c', _, z, h3, h4⟩ | z
    · rw [z] at h2; cases h2
    · exact ⟨by rw [h4]; exact h1, _, _, _, h3⟩
    · rw [backP_get, z] at h2; cases h2
  refine ⟨⟨by rw [backP, List.length_mapIdx]; exact hl, fun i j a h1 h2 => E.inj i j a (backP_own p h1) (backP_own p h2), fun i sl e => ?_, R.zok, fun i a io lk c e1 e2 => ?_⟩, fun i => ?_⟩
  · rcases at' i with ⟨d, h1, h2⟩ | ⟨c, c', h1, h2, h3, h4⟩ | z
    · rw [h2] at e
      cases e
      obtain ⟨ov, k1, w, k2, k3⟩ := E.slot i _ h1
      refine ⟨ov, k1, w, k2, dp_mono (hid_mono fun b o q n => ⟨P.fr b o q fun z => n (.inr (mut_app' hl z).own), fun z => ?_⟩) k3⟩
      rcases z with z | ⟨j, z⟩
      · rcases hz b z with z | z
        · exact n (.inl z)
        · rw [z] at q; cases q
      · exact n (.inr ⟨j, backP_own p z⟩)
    · rw [h2] at e
      cases e
      obtain ⟨ov, k1, a, k2, k3⟩ := R.slot i _ h3
      rw [h4] at k1
      exact ⟨ov, k1, a, k2, cell_mono (hid_mono fun b o q n => ⟨q, fun z => n (z.elim .inl fun ⟨j, z⟩ => .inr ⟨j, own2 j b z⟩)⟩) (fun o q => q) k3⟩
    · rw [backP_get, z] at e; cases e
  · obtain ⟨h1, io', lk', c', h2⟩ := backP_own p ⟨e1, io, lk, c, e2⟩
    obtain ⟨h3, h4⟩ := par_io p h2
    subst h3 h4
    have hio : io = true := by
      rcases at' i with ⟨d, _, z⟩ | ⟨c1, c', _, z, h3, h4⟩ | z
      · rw [z] at e2; cases e2
      · rw [z] at e2; cases e2; rfl
      · rw [z] at h2; cases h2
    have hza := (E.zin i a _ _ _ h1 h2).mp rfl
    exact ⟨fun _ => hz2 a hza, fun _ => hio⟩
  · rcases at' i with z | ⟨c, c', z1, z2, _⟩ | z
    · exact .inl z
    · exact .inr (.inl ⟨c, c', z1, z2⟩)
    · exact .inr (.inr z)
theorem back_post (E : ERel K Z σ H ρ) (p : ParOk ρ) (P : SPost K Z (σ ++ List.replicate m none) H (ρ ++ List.replicate m .un) σ' H' ρ') : EPost K Z σ H ρ H' (backP ρ ρ') := by
  obtain ⟨R, at'⟩ := back_rel E p P P.rel (fun b z => .inl z) fun b z => z
  refine ⟨R, fun b o q n => P.fr b o q fun z => n (mut_app' E.len z), P.dom, by rw [backP, List.length_mapIdx], fun i s e => ?_⟩
  rcases at' i with ⟨d, h1, h2⟩ | ⟨c, c', h1, h2⟩ | z
  · rw [h1] at e; cases e; exact ⟨_, h2, .refl _⟩
  · rw [h1] at e; cases e; exact ⟨_, h2, .upd _ _ _⟩
  · rw [z] at e; cases e
theorem back_rt (E : ERel K Z σ H ρ) (p : ParOk ρ) (P : SPost K Z (σ ++ List.replicate m none) H (ρ ++ List.replicate m .un) σ' H' ρ') {r : Rt} (h : RtB K Z (σ ++ List.replicate m none) H (ρ ++ List.replicate m .un) σ' H' ρ' v r) : RtOk K Z σ H H' (backP ρ ρ') v r := by
  cases r with
  | val d => exact dp_mono (hid_mono fun b o q n => ⟨q, fun z => n (.inl z)⟩) h
  | tmp c =>
    obtain ⟨a, e, o, nz, no, R, k⟩ := h
    have na : H a = none := o.elim (fun ⟨i, z⟩ => by
      obtain ⟨h1, io, lk, c', h2⟩ := own_app E.len z
      obtain ⟨h3, h4⟩ := par_io p h2
      subst h3 h4
      exact absurd ((E.zin i a _ _ _ h1 h2).mp rfl) nz) id
    obtain ⟨R', _⟩ := back_rel E p P R (fun b (z : Z b ∨ b = a) => z.imp id fun (z : b = a) => z ▸ na) fun b z => .inl z
    exact ⟨a, e, na, nz, R', cell_mono (hid_mono fun b o q n => ⟨q, fun z => n (z.imp_left .inl)⟩) (fun o q => q) k⟩
end
section
variable {P : Program} {w : World} {K : PySem.W.Frag} {mg : Str → Option Value} {base : Heap}
/-- a def by its body -/
theorem fn_ok {x qual : Str} {st : Stmt} {f : Addr} {fd : FuncData} {N ps : List Str} {k : Nat} {body : S} {n m : Nat} (F : Fun K x qual st f fd) (sc : FnScope N ps (defScope st)) (hn : ps.length = n) (hm : N.length - n = m)
    (h : ∀ (cdv : Value) (A : Around) (outer : List Env) (s : Shared) (H : Hp) (E : XK), Room k (A.deeper (envOfC qual (defScope st) s.heap.objs.size f cdv)) →
      ESs (cxOf (L2.CX P w) P w K mg base N qual (defScope st) f cdv A outer s H E) (fun cls d _ H => E cls d H) (defBody st) body) :
    FnOk P w K mg base (L2.CX P w) (k + 1) f fd ps (spOf K mg n (bodyF m body)) := by
  subst hn hm
  refine F.okX sc (fun vs H Q E h => h.1) fun cdv A outer s H vs Q E hr hsp => ⟨_, h cdv A outer s H E hr, ?_⟩
  obtain ⟨hl, Z, ρ, R, p, S⟩ := hsp
  have hρ : ρ.length = ps.length := by rw [← R.len, List.length_map, hl]
  have est : L2.start N vs = vs.map some ++ List.replicate (N.length - ps.length) none := by unfold L2.start; rw [hl]
  rw [est]
  refine ⟨Z, _, R.app _, ?_⟩
  unfold bodyF at S
  cases q : body (ρ ++ List.replicate (N.length - ps.length) .un) with
  | bad => rw [q] at S; exact S
  | exc x' ρ' =>
    rw [q] at S
    exact fun σ' cls d H' P' k => S cls d H' (back_post R p P') k
  | ok fl ρ' =>
    rw [q] at S
    cases fl with
    | nx => exact fun σ' H' P' => S .non H' (back_post R p P') .non
    | bk => exact S.elim
    | ct => exact S.elim
    | rt r => exact fun σ' H' v P' k => S v H' (back_post R p P') (back_rt R p P' k)
end
end Ev

set_option Elab.async false
set_option linter.all false
set_option maxRecDepth 100000
set_option maxHeartbeats 4000000
set_option autoImplicit false
/-! lists that a slot owns; exceptions -/
namespace Ev
open PySem L2 PySem.Spec PyProof.Rows
section
variable {K : PySem.W.Frag} {Z : Addr → Prop} {σ : L2.St} {H : Hp} {ρ : Rho}
theorem EPost.put (E : ERel K Z σ H ρ) {i : Nat} {io : Bool} {c c' : Cell} {a : Addr} {o : HO} (ha : σ[i]? = some (some (.ref a))) (hs : ρ[i]? = some (.own io false c)) (hc : CellAt K (hid (upd H a o) (Hd Z σ ρ)) (upd H a o) a c') :
    EPost K Z σ H ρ (upd H a o) (ρ.set i (.own io false c')) := by
  have fr : ∀ b u, H b = some u → b ≠ a → (upd H a o) b = some u := fun b u q n => by rw [upd_ne n]; exact q
  have dom : ∀ b u, H b = some u → ∃ u', (upd H a o) b = some u' := fun b u q => by
    by_cases e : b = a
    · subst e; exact ⟨o, upd_same⟩
    · exact ⟨u, fr b u q e⟩
  have := ERel.put (N := fun _ => False) E ha hs fr dom (fun b z => z.elim) (cell_mono (hid_mono fun b o q m => ⟨q, fun z => m (z.elim id False.elim)⟩) (fun o q => q) hc)
  have ez : (fun b => Z b ∨ False) = Z := by funext b; exact propext ⟨fun z => z.elim id False.elim, .inl⟩
  rw [ez] at this
  exact ⟨this, fun b u q m => fr b u q fun e => m (e ▸ ⟨i, io, c, ha, hs⟩), dom, evos_set hs⟩
theorem put_sub {i : Nat} {io : Bool} {c c' : Cell} {a : Addr} {o : HO} (ha : σ[i]? = some (some (.ref a))) (hs : ρ[i]? = some (.own io false c)) : Sub (hid H (Hd Z σ ρ)) (hid (upd H a o) (Hd Z σ ρ)) := hid_mono fun b u q m => ⟨by
  have ne : b ≠ a := fun e => m (.inr (e ▸ ⟨i, ha, _, _, _, hs⟩))
  rw [upd_ne ne]; exact q, m⟩
end
section
variable {X : Cx} {W : WX} {pos : Pos}
/-- a method of a list that slot i owns: what comes, the list behind it -/
def eMt (g : List D → List D → Option (D × List D)) (i : Nat) (as : M (List RV)) : M RV := fun ρ => match ρ[i]? with
  | some (.own _ _ (.lst _)) => bnd as (fun rs => bnd (escs rs) fun es ρ => match ρ[i]? with
    | some (.own io false (.lst ds)) => (match g ds es with
      | some (d, ds') => .ok (.val d) (ρ.set i (.own io false (.lst ds')))
      | none => .bad)
    | _ => .bad) ρ
  | _ => .bad
def MtD (K : PySem.W.Frag) (r : V → List V → Hp → VK → Prop) (g : List D → List D → Option (D × List D)) : Prop := ∀ (G H : Hp) (p : Addr) (vs xs : List V) (ds es : List D) (d : D) (ds' : List D) (Q : VK), Sub G H → H p = some (.lst vs) → DpAll K G vs ds → DpAll K G xs es → g ds es = some (d, ds') →
  (∀ v vs', Dp K G v d → DpAll K G vs' ds' → Q v (upd H p (.lst vs'))) → r (.ref p) xs H Q
theorem rd_mt {r : V → List V → Hp → VK → Prop} {g : List D → List D → Option (D × List D)} {i : Nat} {as : M (List RV)} {σ : L2.St} {H : Hp} {Q : VK} (hr : MtD X.K r g) (w : rd X.K X.mg W (eMt g i as) σ H Q) :
    tVar i σ H fun x H1 => tyV X.K "list" x H1 ∧ rdG X.K X.mg W (tAs X.K) as σ H1 fun xs H2 => r x xs H2 Q := by
  obtain ⟨Z, ρ, E, S⟩ := w
  unfold eMt at S
  cases hs : ρ[i]? with
  | none => simp only [hs] at S; exact S.elim
  | some sl =>
    simp only [hs] at S
    cases sl with
    | un => exact S.elim
    | val d => exact S.elim
    | own io lk c =>
      cases c with
      | dic kvs => exact S.elim
      | lst ds0 =>
        simp only at S
        obtain ⟨ov, k1, a, e, vs0, h0, _⟩ := E.slot i _ hs
        subst e
        refine ⟨.ref a, k1, .inl ⟨rfl, _, SqL.of h0⟩, ?_⟩
        refine rd_of E (sat_bnd S) (fun rs ρ1 xs H1 P1 R1 S1 => ?_) fun x ρ1 cls d H1 P1 X1 e1 => e1 cls d H1 P1 X1
        obtain ⟨es, ρ2, P2, h2, S2⟩ := escs_ok P1.rel R1 S1
        have P := P1.trans P2
        cases hs2 : ρ2[i]? with
        | none => simp only [hs2] at S2; exact S2.elim
        | some sl =>
          simp only [hs2] at S2
          cases sl with
          | un => exact S2.elim
          | val d => exact S2.elim
          | own io2 lk2 c2 =>
            cases c2 with
            | dic kvs => cases lk2 <;> exact S2.elim
            | lst ds =>
              cases lk2 with
              | true => exact S2.elim
              | false =>
                simp only at S2
                cases hg : g ds es with
                | none => simp only [hg] at S2; exact S2.elim
                | some p =>
                  obtain ⟨d, ds'⟩ := p
                  simp only [hg] at S2
                  obtain ⟨ov, k2, a2, e2, vs, h3, h4⟩ := P.rel.slot i _ hs2
                  rw [k1] at k2
                  cases k2
                  cases e2
                  refine hr _ _ _ _ _ _ _ _ _ _ hid_sub h3 h4 h2 hg fun v vs' hv hvs => ?_
                  have sub := put_sub (Z := Z) (H := H1) (o := .lst vs') (c' := .lst ds') k1 hs2
                  have P3 := EPost.put P.rel k1 hs2 (o := .lst vs') (c' := .lst ds') ⟨vs', upd_same, dps_mono sub hvs⟩
                  exact S2 v _ (P.trans P3) (dp_mono P3.sub hv)
def mAppend : List D → List D → Option (D × List D)
  | ds, [d] => if ds.length < lim then some (.none, ds ++ [d]) else none
  | _, _ => none
def mPop0 : List D → List D → Option (D × List D)
  | ds, [] => (ds[ds.length - 1]?).map fun d => (d, ds.dropLast)
  | _, _ => none
def mPop1 : List D → List D → Option (D × List D)
  | ds, [.int i] => if -(2 ^ 63) ≤ i ∧ i < 2 ^ 63 then (seqIndex? i ds.length).bind fun k => (ds[k]?).map fun d => (d, ds.eraseIdx k) else none
  | _, _ => none
theorem dps_last {K : PySem.W.Frag} {H : Hp} {vs : List V} {ds : List D} (h : DpAll K H vs ds) : DpAll K H vs.dropLast ds.dropLast := by
  rw [List.dropLast_eq_take, List.dropLast_eq_take, dps_len h]
  exact dps_take _ h
theorem md_append {K : PySem.W.Frag} : MtD K rAppend mAppend := fun G H p vs xs ds es d ds' Q s h1 h2 h3 e k => by
  unfold mAppend at e
  split at e
  · rename_i x
    split at e
    · rename_i hl
      cases e
      cases h3 with
      | cons a b =>
        cases b
        refine ⟨p, vs, _, rfl, rfl, h1, ?_, k _ _ .non (dps_app h2 (.cons a .nil))⟩
        rw [dps_len h2, sizeLine_eq]
        exact hl
    · cases e
  · cases e
theorem ev_append {e : Expr} {o : Expr} {i : Nat} {f : M (List RV)} {apos : Pos} (ho : PE X o (tVar i)) (ha : EA X W [e] f) (hbase : attributeBase o "append" X.env (eval o X.env) = eval o X.env := by rfl)
    (hfew : ((backTo pos (starEach [e] X.env)).all (fun x => !x.1) && (backToKw pos (keywordEach [] X.env)).all (fun x => x.1.isSome) && decide (([e] : List Expr).length + ([] : List Keyword).length + (if ([] : List Keyword).isEmpty then 0 else 1) < 30)) = true := by rfl)
    (hline : (apos.endLine == pos.line) = true := by rfl) (hs : starEach [e] X.env = (false, eval e X.env) :: starEach [] X.env := by rfl) (hplain : (backTo pos (starEach [] X.env)).any (·.1) = false := by rfl) :
    EV X W (.Call (.Attribute o "append" apos) [e] [] pos) (eMt mAppend i f) :=
  pe_imp (pe_bm PySem.F.plainAttrs_list PySem.F.slot_list_append PySem.F.type_list_append mt_append ho ha hbase hfew hline hs hplain) fun σ H Q w => rd_mt (X := X) md_append w
theorem md_pop0 {K : PySem.W.Frag} : MtD K rPop mPop0 := fun G H p vs xs ds es d ds' Q s h1 h2 h3 e k => by
  unfold mPop0 at e
  split at e
  · cases h3
    cases q : ds[ds.length - 1]? with
    | none => rw [q] at e; cases e
    | some d0 =>
      rw [q] at e
      cases e
      obtain ⟨v, k1, k2⟩ := dps_at h2 q
      rw [← dps_len h2] at k1
      exact ⟨p, vs, v, rfl, rfl, h1, k1, k _ _ k2 (dps_last h2)⟩
  · cases e
theorem md_pop1 {K : PySem.W.Frag} : MtD K rPopAt mPop1 := fun G H p vs xs ds es d ds' Q s h1 h2 h3 e k => by
  unfold mPop1 at e
  split at e
  · rename_i i
    split at e
    · rename_i hi
      cases qi : seqIndex? i ds.length with
      | none => rw [qi] at e; cases e
      | some j =>
        rw [qi] at e
        simp only [Option.bind_some] at e
        cases qd : ds[j]? with
        | none => rw [qd] at e; cases e
        | some d0 =>
          rw [qd] at e
          cases e
          obtain ⟨v, k1, k2⟩ := dps_at h2 qd
          cases h3 with
          | cons a b =>
            cases b
            cases a
            exact ⟨p, vs, i, j, v, rfl, rfl, h1, hi.1, hi.2, by rw [dps_len h2]; exact qi, k1, k _ _ k2 (dps_erase _ h2)⟩
    · cases e
  · cases e
theorem ev_pop0 {o : Expr} {i : Nat} {apos : Pos} (ho : PE X o (tVar i)) (hbase : attributeBase o "pop" X.env (eval o X.env) = eval o X.env := by rfl) (hline : (apos.endLine == pos.line) = true := by rfl) :
    EV X W (.Call (.Attribute o "pop" apos) [] [] pos) (eMt mPop0 i aNil) :=
  pe_imp (pe_bm0 PySem.F.plainAttrs_list PySem.F.slot_list_pop PySem.F.type_list_pop mt_pop ho hbase hline) fun σ H Q w => by
    obtain ⟨x, k, ty, Z, ρ, E, S⟩ := rd_mt (X := X) md_pop0 w
    exact ⟨x, k, ty, S [] H (.refl E) .nil⟩
theorem ev_pop1 {e : Expr} {o : Expr} {i : Nat} {f : M (List RV)} {apos : Pos} (ho : PE X o (tVar i)) (ha : EA X W [e] f) (hbase : attributeBase o "pop" X.env (eval o X.env) = eval o X.env := by rfl)
    (hfew : ((backTo pos (starEach [e] X.env)).all (fun x => !x.1) && (backToKw pos (keywordEach [] X.env)).all (fun x => x.1.isSome) && decide (([e] : List Expr).length + ([] : List Keyword).length + (if ([] : List Keyword).isEmpty then 0 else 1) < 30)) = true := by rfl)
    (hline : (apos.endLine == pos.line) = true := by rfl) (hs : starEach [e] X.env = (false, eval e X.env) :: starEach [] X.env := by rfl) (hplain : (backTo pos (starEach [] X.env)).any (·.1) = false := by rfl) :
    EV X W (.Call (.Attribute o "pop" apos) [e] [] pos) (eMt mPop1 i f) :=
  pe_imp (pe_bm PySem.F.plainAttrs_list PySem.F.slot_list_pop PySem.F.type_list_pop mt_popAt ho ha hbase hfew hline hs hplain) fun σ H Q w => rd_mt (X := X) md_pop1 w
/-- xs.extend(e), a new list comes from e, or another slot's own one -/
def eExt (i : Nat) (f : M RV) : M RV := fun ρ => match ρ[i]? with
  | some (.own _ _ (.lst _)) => bnd f (fun a ρ => match a, ρ[i]? with
    | .tmp (.lst es), some (.own io false (.lst ds)) => if ds.length + es.length ≤ lim then .ok (.val .none) (ρ.set i (.own io false (.lst (ds ++ es)))) else .bad
    | _, _ => .bad) ρ
  | _ => .bad
theorem ev_extend {e : Expr} {o : Expr} {i : Nat} {f : M RV} {apos : Pos} (ho : PE X o (tVar i)) (ha : EV X W e f) (hbase : attributeBase o "extend" X.env (eval o X.env) = eval o X.env := by rfl)
    (hfew : ((backTo pos (starEach [e] X.env)).all (fun x => !x.1) && (backToKw pos (keywordEach [] X.env)).all (fun x => x.1.isSome) && decide (([e] : List Expr).length + ([] : List Keyword).length + (if ([] : List Keyword).isEmpty then 0 else 1) < 30)) = true := by rfl)
    (hline : (apos.endLine == pos.line) = true := by rfl) (hs : starEach [e] X.env = (false, eval e X.env) :: starEach [] X.env := by rfl) (hplain : (backTo pos (starEach [] X.env)).any (·.1) = false := by rfl) :
    EV X W (.Call (.Attribute o "extend" apos) [e] [] pos) (eExt i f) :=
  pe_imp (pe_bm PySem.F.plainAttrs_list PySem.F.slot_list_extend PySem.F.type_list_extend mt_extend ho (pa_cons ha pa_nil hs) hbase hfew hline hs hplain) fun σ H Q ⟨Z, ρ, E, S⟩ => by
    unfold eExt at S
    cases hs : ρ[i]? with
    | none => simp only [hs] at S; exact S.elim
    | some sl =>
      simp only [hs] at S
      cases sl with
      | un => exact S.elim
      | val d => exact S.elim
      | own io lk c =>
        cases c with
        | dic kvs => exact S.elim
        | lst ds0 =>
          simp only at S
          obtain ⟨ov, k1, a, e, vs0, h0, _⟩ := E.slot i _ hs
          subst e
          refine ⟨.ref a, k1, .inl ⟨rfl, _, SqL.of h0⟩, ?_⟩
          refine rd_of E (sat_bnd S) (fun rv ρ1 x H1 P1 R1 S1 => ?_) fun x ρ1 cls d H1 P1 X1 e1 => e1 cls d H1 P1 X1
          show rExtend _ _ _ _
          cases rv with
          | val d => exact S1.elim
          | bor k => exact S1.elim
          | tmp c =>
            cases c with
            | dic kvs => exact S1.elim
            | lst es =>
              cases hs2 : ρ1[i]? with
              | none => simp only [hs2] at S1; exact S1.elim
              | some sl =>
                simp only [hs2] at S1
                cases sl with
                | un => exact S1.elim
                | val d => exact S1.elim
                | own io2 lk2 c2 =>
                  cases c2 with
                  | dic kvs => cases lk2 <;> exact S1.elim
                  | lst ds =>
                    cases lk2 with
                    | true => exact S1.elim
                    | false =>
                      simp only at S1
                      split at S1
                      · rename_i hl
                        obtain ⟨B, rfl, n, nz, no, E', zs, hB, hzs⟩ := R1
                        obtain ⟨ov, k2, a2, e2, vs, h3, h4⟩ := P1.rel.slot i _ hs2
                        rw [k1] at k2
                        cases k2
                        cases e2
                        have hzs := dps_mono (H := hid H1 (Hd Z σ ρ1)) (hid_mono fun b o q m => ⟨q, fun z => m (.inl z)⟩) hzs
                        refine ⟨a, B, vs, zs, rfl, rfl, h3, hB, by rw [dps_len h4, dps_len hzs]; exact lim_line hl, ?_⟩
                        have sub := put_sub (Z := Z) (H := H1) (o := .lst (vs ++ zs)) (c' := .lst (ds ++ es)) k1 hs2
                        have P3 := EPost.put P1.rel k1 hs2 (o := .lst (vs ++ zs)) (c' := .lst (ds ++ es)) ⟨_, upd_same, dps_mono sub (dps_app h4 hzs)⟩
                        exact S1 .non _ (P1.trans P3) .non
                      · exact S1.elim
/-! ### xs[k] = e -/
def sSub (i : Nat) (ix f : M RV) : S := bnd f fun a => bnd (esc a) fun d ρ => match ρ[i]? with
  | some (.own _ _ _) => bnd ix (fun k ρ => match ρ[i]?, der ρ k with
    | some (.own io false (.lst ds)), some (.int z) => (match ixN ds.length z with
      | some j => .ok .nx (ρ.set i (.own io false (.lst (ds.set j d))))
      | none => .bad)
    | _, _ => .bad) ρ
  | _ => .bad
theorem es_sub {o ie e : Expr} {i : Nat} {ix f : M RV} {tpos : Pos} (ho : PE X o (tVar i)) (hi : EV X W ie ix) (he : EV X W e f)
    (ha : ∀ v, assign (.Subscript o ie tpos) X.env v = (do
      let ov ← holding [v] (eval o X.env)
      let iv ← holding [v, ov] (eval ie X.env)
      standAt tpos
      holding [v, ov, iv] (setItem ov iv v)
      release [v, ov, iv] []) := by intro _; rfl) (hs : swapsWithSole [.Subscript o ie tpos] e pos.line X.env = pure false := by rfl) (hw : swappedStores [.Subscript o ie tpos] e X.env = pure none := by rfl)
    (h1 : (assignEach [.Subscript o ie tpos] X.env).map (·.2) = [assign (.Subscript o ie tpos) X.env] := by rfl) : ES X W (.Assign [.Subscript o ie tpos] e pos) (sSub i ix f) :=
  ps_imp (ps_asg he (pg_sub ho hi set_list ha) hs hw h1) fun D σ H ⟨Z, ρ, E, S⟩ => by
    refine rd_of E (sat_bnd S) (fun a ρ1 v1 H1 P1 R1 S1 => ?_) fun x ρ1 cls d H1 P1 X1 e1 => xc_ev (.refl E) e1 P1 X1
    obtain ⟨d, ρ2, q, S2⟩ := sat_esc S1
    obtain ⟨P2, h2⟩ := esc_ok P1.rel R1 q
    have P12 := P1.trans P2
    have P12 := P12.sp
    cases hs : ρ2[i]? with
    | none => simp only [hs] at S2; exact S2.elim
    | some sl =>
      simp only [hs] at S2
      cases sl with
      | un => exact S2.elim
      | val d => exact S2.elim
      | own io lk c =>
        simp only at S2
        obtain ⟨ov, k1, p, e, _⟩ := P2.rel.slot i _ hs
        subst e
        refine ⟨_, k1, ?_⟩
        refine rd_of P2.rel (sat_bnd S2) (fun b ρ3 v3 H3 P3 R3 S3 => ?_) fun x ρ1 cls d H2 P2' X1 e1 => xc_ev P12 e1 P2' X1
        cases hs2 : ρ3[i]? with
        | none => simp only [hs2] at S3; exact S3.elim
        | some sl =>
          cases hk : der ρ3 b with
          | none => simp only [hs2, hk] at S3; exact S3.elim
          | some dk =>
            simp only [hs2, hk] at S3
            split at S3
            · rename_i io3 ds z e1 e2
              cases e1
              cases e2
              cases hj : ixN ds.length z with
              | none => simp only [hj] at S3; exact S3.elim
              | some j =>
                simp only [hj] at S3
                obtain ⟨ov, k2, a2, e2, vs, h3, h4⟩ := P3.rel.slot i _ hs2
                rw [k1] at k2
                cases k2
                cases e2
                have hv := dvInt (der_ok P3.rel R3 hk)
                have h2' := dp_mono P3.sub h2
                refine ⟨p, vs, z, j, rfl, hv, h3, by rw [dps_len h4]; exact hj, ?_⟩
                have sub := put_sub (Z := Z) (H := H3) (o := .lst (vs.set j v1)) (c' := .lst (ds.set j d)) k1 hs2
                have P4 := EPost.put P3.rel k1 hs2 (o := .lst (vs.set j v1)) (c' := .lst (ds.set j d)) ⟨_, upd_same, dps_mono sub (dps_set j h4 h2')⟩
                exact S3 σ _ (P12.trans (P3.trans P4).sp)
            · exact S3.elim
/-! ### raise -/
theorem pmk_own0 {C : Addr} {bmB : List Value} {B newId initId : String} {x : Str} {p : Pos} (F : ExcBaseFacts B newId initId bmB) (q : PySem.W.excIn X.K C bmB newId = true) (gC : X.mg x = some (.ref C))
    (kC : PySem.W.keepIn X.K (.ref C) = true) (r : Raises X (.ref C)) (hg : Gl X x) (hdb : (x == ("__debug__" : Str)) = false := by decide) : PMk X (.Call (.Name x p) [] [] pos) (fun _ H Q => Q (.ref C) none H) := by
  intro pins s σ H Q I h
  refine wpAny_Call_Name_kw (ld_glob I hg gC ?_ hdb)
  refine PySem.W.callWith_K0 I.kIn kC ?_
  show wpAny _ _ (call (.ref C) []) _ _ _
  obtain ⟨bm, N, nm, qn, bs, hdct, sn, sub, ab, col, dd, k0, k1, k2, k3, k5, mN, hC, hN, hni, T⟩ := exc_obj I.kIn q
  refine wpAny_call_exc_subT F T hC hN hni (fun h' e hm => ?_) (by show 0 ≤ sizeLine; exact Nat.zero_le _)
  exact mk_of I hm r h (I.hok.gone hm.new)
/-- an own class of exceptions without an __init__ of its own -/
structure ExcOk (K : PySem.W.Frag) (mg : Str → Option Value) (x : Str) (C : Addr) : Prop where
  gC : mg x = some (.ref C)
  how : ∃ B newId initId bmB, ExcBaseFacts B newId initId bmB ∧ PySem.W.excIn K C bmB newId = true
  kC : PySem.W.keepIn K (.ref C) = true
  exC : PySem.W.subIn K (.ref C) (.type "BaseException") = some true
  tyC : PySem.W.typeIn K (.ref C) = some (.type "type")
def sRaise (x : Str) : S := fun ρ => .exc ⟨x, []⟩ ρ
theorem es_raise {x : Str} {C : Addr} {p p2 : Pos} (T : ExcOk X.K X.mg x C) (hc : X.calm = true) (tk : Takes X W) (hg : Gl X x) (hdb : (x == ("__debug__" : Str)) = false := by decide) : ES X W (.Raise (some (.Call (.Name x p) [] [] p2)) none pos) (sRaise x) := by
  obtain ⟨B, n, i, bm, F, q⟩ := T.how
  refine ps_imp (ps_raise hc tk (pmk_own0 F q T.gC T.kC (raises_own T.exC T.tyC) hg hdb)) fun D σ H ⟨Z, ρ, E, S⟩ => ?_
  exact S σ (.ref C) none H (.refl E) ⟨T.gC, rfl, rfl⟩
end
end Ev

set_option Elab.async false
set_option linter.all false
set_option maxRecDepth 100000
set_option maxHeartbeats 4000000
set_option autoImplicit false
/-! sets that are made and sorted at once -/
namespace Ev
open PySem L2 PySem.Spec PyProof.Rows
section
variable {P : Program} {w : World} {A : Around} {E : Value → Shared → Prop} {s : Shared}
/-- how a set at S takes the values one after the other; h0 the heap ahead of it -/
structure Fill (P : Program) (w : World) (A : Around) (h0 : Heap) (S : Addr) (items : List Value) (Sg : Heap → Nat → Prop) : Prop where
  fresh : ∀ h, h.get? S = some { cls := .type "set", dict := none, data := .set #[] 0 (.fresh 0 0 (!w.params.followText "set-order")) } → (∀ b o, h0.get? b = some o → h.get? b = some o) → Sg h 0
  keep : ∀ h h' i, Sg h i → (∀ b o, h0.get? b = some o → h'.get? b = some o) → (∀ o, h.get? S = some o → h'.get? S = some o) → Sg h' i
  add : ∀ (B : Around) (i : Nat) (v : Value) (s : Shared) (E : Value → Shared → Prop) (Q : Bool → Shared → Prop), B.units = A.units → items[i]? = some v → Sg s.heap i → (∀ b o, h0.get? b = some o → s.heap.get? b = some o) →
    (∀ b h' t', Heap.SameBut S s.heap h' → s.toks ≤ t' → Sg h' (i + 1) → Q b { s with heap := h', toks := t' }) → wpAny (model P w) B (pyHash v >>= fun h => setAddHashed S v h) Q E s
theorem upd_gen {I : Addr} {fp wr : List Addr} {G : Array GenState → Array GenState → Prop} {n : Nat} {Pv : Nat → Value → Prop} {St : Nat → Shared → Prop} {R : Result → Shared → Prop} {h0 : Heap} {S : Addr} {items : List Value} {Sg : Heap → Nat → Prop} {B : Around}
    (Wk : WalksS P w A.in1 I fp wr G n Pv St) (Fi : Fill P w B h0 S items Sg) (hu : A.in1.units = B.units) (hSf : S ∉ fp) (hval : ∀ i v, Pv i v → items[i]? = some v) (hS0 : h0.get? S = none) (hw0 : ∀ b ∈ wr, h0.get? b = none) :
    ∀ (k i : Nat) (s : Shared), n - i = k → i ≤ n → St i s → (∀ b o, h0.get? b = some o → s.heap.get? b = some o) → Sg s.heap i →
      (∀ s', Moved (S :: wr) G s s' → Sg s'.heap n → (∀ b o, h0.get? b = some o → s'.heap.get? b = some o) → R (.ok (.ret .none)) s') →
      codeAny (model P w) A (.builtin "set.update.loop" ⟨[.ref S, .ref I], []⟩) R s := by
  have hSw : S ∉ wr := fun h => hSf (Wk.sub _ h)
  have hsub : ∀ b ∈ wr, b ∈ S :: wr := fun b hb => List.mem_cons_of_mem _ hb
  have still : ∀ {s s' : Shared}, Moved wr G s s' → (∀ b o, h0.get? b = some o → s.heap.get? b = some o) → ∀ b o, h0.get? b = some o → s'.heap.get? b = some o := fun hm hkp b o e =>
    hm.heap b o (fun hb => by rw [hw0 b hb] at e; cases e) (hkp b o e)
  intro k
  induction k with
  | zero =>
    intro i s hk hi hst hkp hS hR
    obtain rfl : i = n := by omega
    refine codeAny_builtin F.entry_set_update_loop ?_
    rw [Around.under_plainId F.plain_set_update_loop _]
    show wpAny _ A.in1 (pyNext (.ref I) >>= _) _ _ s
    refine wpAny_bind (Wk.done s _ _ hst fun s' hm => ?_)
    show wpAny _ A.in1 (PySem.ret Value.none) _ _ s'
    exact wpAny_pure (hR s' (hm.mono hsub) (Fi.keep _ _ _ hS (still hm hkp) fun o e => hm.heap S o hSw e) (still hm hkp))
  | succ k ih =>
    intro i s hk hi hst hkp hS hR
    have hlt : i < n := by omega
    refine codeAny_builtin F.entry_set_update_loop ?_
    rw [Around.under_plainId F.plain_set_update_loop _]
    show wpAny _ A.in1 (pyNext (.ref I) >>= _) _ _ s
    refine wpAny_bind (Wk.item i s _ _ hlt hst fun v s' hP hst' hm => ?_)
    have hkp' := still hm hkp
    have hS' := Fi.keep _ _ _ hS hkp' fun o e => hm.heap S o hSw e
    show wpAny _ A.in1 (holding [v] (setAdd S v) >>= _) _ _ s'
    refine wpAny_bind (wpAny_holding ?_)
    unfold setAdd
    refine wpAny_holding ?_
    refine Fi.add A.in1 i v s' _ _ hu (hval i v hP) hS' hkp' fun b h' t' hsb htk hS2 => ?_
    have hkp2 : ∀ b o, h0.get? b = some o → h'.get? b = some o := fun b o e => (hsb.2 b (fun z => by rw [z, hS0] at e; cases e)).trans (hkp' b o e)
    refine wpAny_pure ⟨plainId_quiet F.plain_set_update_loop _, ih (i + 1) _ (by omega) hlt (Wk.frame _ s' _ _ hst' htk fun b hb o e => ?_) hkp2 hS2 fun s'' hm'' hS'' hkp'' => ?_⟩
    · rw [hsb.2 b (fun h : b = S => hSf (by rw [← h]; exact hb))]; exact e
    · refine hR s'' (Moved.trans Wk.gtrans ((hm.mono hsub).then_heap htk fun b o hb e => ?_) hm'') hS'' hkp''
      rw [hsb.2 b (fun h : b = S => hb (by rw [h]; exact List.mem_cons_self))]; exact e

set_option maxHeartbeats 8000000 in
/-- set(xs), xs a list or a tuple -/
theorem set_gen {l : Addr} {its : List Value} {Sg : Heap → Nat → Prop} {Q : Value → Shared → Prop} (hh : A.handled = none) (hl : s.heap.IsList l its.toArray ∨ s.heap.IsTuple l its.toArray) (Fi : Fill P w A.in1.in1.in1 s.heap s.heap.objs.size its Sg)
    (h : ∀ (h' : Heap) (tk : Nat), Sg h' its.length → (∀ b o, s.heap.get? b = some o → h'.get? b = some o) → Q (.ref s.heap.objs.size) { s with heap := h', toks := tk }) :
    wpAny (model P w) A (call (.type "set") [.ref l]) Q E s := by
  obtain ⟨c, tl, hmro⟩ := F.called_set.mro
  have hmade := F.called_set.made
  have hsub := F.called_set.sub
  have none_of : ∀ b, s.heap.objs.size ≤ b → s.heap.get? b = none := fun b hb => by
    cases q : s.heap.get? b with
    | none => rfl
    | some o => exact absurd (Nat.lt_of_lt_of_le (Heap.lt_size q) hb) (Nat.lt_irrefl _)
  refine wpAny_call (codeAny_of_tree ?_)
  show wpAny _ _ (callAny (.type "set") _) _ _ _
  refine wpAny_pure ⟨Code.quiet_builtin _ (by decide +kernel), codeAny_builtin F.entry_type_call ?_⟩
  rw [Around.under_plain (weight_type_call_type "set" [.ref l] []) rfl]
  have h1 := F.called_set.notType
  have h2 := F.called_set.canCreate
  have hct := F.typeCall_set_1 (.ref l)
  repeat (any_goals (first | assumption | wp_step))
  refine codeAny_mono (code_set_led1 (.ref l) (E := E) (Q₁ := fun obj s₁ => obj = .ref s.heap.objs.size ∧ s₁ = { s with heap := s.heap.push { cls := .type "set", dict := none, data := .set #[] 0 (.fresh 0 0 (!w.params.followText "set-order")) } }) ⟨rfl, rfl⟩) fun r s₁ hr => ?_
  cases r with
  | error e => exact hr
  | ok fl =>
    cases fl with
    | ret obj =>
      obtain ⟨rfl, rfl⟩ := hr
      have hS : (s.heap.push { cls := .type "set", dict := none, data := .set #[] 0 (.fresh 0 0 (!w.params.followText "set-order")) }).get? s.heap.objs.size = some { cls := .type "set", dict := none, data := .set #[] 0 (.fresh 0 0 (!w.params.followText "set-order")) } := Heap.get?_push_size _ rfl
      have hT : Shared.TypeIs { s with heap := s.heap.push { cls := .type "set", dict := none, data := .set #[] 0 (.fresh 0 0 (!w.params.followText "set-order")) } } (.ref s.heap.objs.size) "set" := ⟨_, hS, rfl⟩
      have hli := F.called_set.init.lookup
      have hbi := F.called_set.init.bind (.ref s.heap.objs.size)
      repeat (any_goals (first | assumption | wp_step))
      refine codeAny_mono (codeAny_call_builtin (R := wants (fun r s₂ => r = .none ∧ ∃ h' tk, s₂ = { s with heap := h', toks := tk } ∧ Sg h' its.length ∧ (∀ b o, s.heap.get? b = some o → h'.get? b = some o)) E) F.called_set.init.plain F.entry_set_init (check_set_init_1 hT ?_)) fun r₂ s₂ hr₂ => ?_
      · have hh3 : A.in1.in1.in1.handled = none := by simp [hh]
        have fin : ∀ (s' : Shared), Sg s'.heap its.length → (∀ b o, s.heap.get? b = some o → s'.heap.get? b = some o) → s'.gens = s.gens → s'.drawn = s.drawn → s'.os = s.os → ∃ h' tk, s' = { s with heap := h', toks := tk } ∧ Sg h' its.length ∧ (∀ b o, s.heap.get? b = some o → h'.get? b = some o) := fun s' q1 q2 e1 e2 e3 => by
          obtain ⟨h', g2, d', tk', os'⟩ := s'
          have e1 : g2 = s.gens := e1
          have e2 : d' = s.drawn := e2
          have e3 : os' = s.os := e3
          subst e1 e2 e3
          exact ⟨h', tk', rfl, q1, q2⟩
        rcases hl with hl | hl
        · obtain ⟨ol, hol, hcl, nl, hdl⟩ := hl
          obtain ⟨ocls, odict, odata, oslots⟩ := ol
          simp only at hcl hdl
          subst hcl; subst hdl
          have hol' : (s.heap.push { cls := .type "set", dict := none, data := .set #[] 0 (.fresh 0 0 (!w.params.followText "set-order")) }).get? l = some { cls := .type "list", dict := odict, data := .seq its.toArray nl, slots := oslots } := Heap.get?_push_of_some _ hol
          have hsls := F.sub_list_set
          have hslf := F.sub_list_frozenset
          have hne : (Value.type "list" == Value.type "dict") = false := by decide
          have hl1 : (s.heap.push { cls := .type "set", dict := none, data := .set #[] 0 (.fresh 0 0 (!w.params.followText "set-order")) }).IsList l its.toArray := ⟨_, hol', rfl, nl, rfl⟩
          unfold Builtin.«set.__init__» noKeywords Builtin.Frozenset.updateFrom
          generalize hPI : pyIter = PI
          wp_walk
          subst hPI
          refine wpAny_pyIter_list hl1 ?_
          refine wpAny_bind (wpAny_runValue ?_)
          have hlS : l < s.heap.objs.size := Heap.lt_size hol
          have hneI : l ≠ (s.heap.push { cls := .type "set", dict := none, data := .set #[] 0 (.fresh 0 0 (!w.params.followText "set-order")) }).objs.size := by
            rw [Heap.size_push]; exact Nat.ne_of_lt (Nat.lt_succ_of_lt hlS)
          have hSf : s.heap.objs.size ∉ [(s.heap.push { cls := .type "set", dict := none, data := .set #[] 0 (.fresh 0 0 (!w.params.followText "set-order")) }).objs.size, l] := by
            rw [Heap.size_push]; simp only [List.mem_cons, List.mem_singleton, List.not_mem_nil, or_false, not_or]
            exact ⟨Nat.ne_of_lt (Nat.lt_succ_self _), Nat.ne_of_gt hlS⟩
          refine upd_gen ((Walks.list hh3 _ l hneI its.toArray).toS) Fi rfl hSf (fun i v hv => by simpa using hv) (none_of _ (Nat.le_refl _)) (fun b hb => none_of b (by
              rw [List.mem_singleton.mp hb, Heap.size_push]
              exact Nat.le_succ _)) (its.toArray.size - 0) 0 _ (by omega) (Nat.zero_le _)
            ⟨⟨_, Heap.get?_push_size _ rfl, rfl, rfl⟩, (hl1.push _)⟩ (fun b o e => Heap.get?_push_of_some _ (Heap.get?_push_of_some _ e)) (Fi.fresh _ (Heap.get?_push_of_some _ hS) fun b o e => Heap.get?_push_of_some _ (Heap.get?_push_of_some _ e)) ?_
          intro s' hm hS' hkp
          show wpAny _ _ _ _ _ _
          refine wpAny_pure ?_
          show wpAny _ _ (PySem.ret Value.none) _ _ _
          exact wpAny_pure ⟨rfl, fin s' (by simpa using hS') hkp hm.gens hm.drawn hm.os⟩
        · obtain ⟨ol, hol, hcl, nl, hdl⟩ := hl
          obtain ⟨ocls, odict, odata, oslots⟩ := ol
          simp only at hcl hdl
          subst hcl; subst hdl
          have hol' : (s.heap.push { cls := .type "set", dict := none, data := .set #[] 0 (.fresh 0 0 (!w.params.followText "set-order")) }).get? l = some { cls := .type "tuple", dict := odict, data := .seq its.toArray nl, slots := oslots } := Heap.get?_push_of_some _ hol
          have hsls := F.sub_tuple_set
          have hslf := F.sub_tuple_frozenset
          have hne : (Value.type "tuple" == Value.type "dict") = false := by decide
          have hl1 : (s.heap.push { cls := .type "set", dict := none, data := .set #[] 0 (.fresh 0 0 (!w.params.followText "set-order")) }).IsTuple l its.toArray := ⟨_, hol', rfl, nl, rfl⟩
          unfold Builtin.«set.__init__» noKeywords Builtin.Frozenset.updateFrom
          generalize hPI : pyIter = PI
          wp_walk
          subst hPI
          refine wpAny_pyIter_tuple hl1 ?_
          refine wpAny_bind (wpAny_runValue ?_)
          have hlS : l < s.heap.objs.size := Heap.lt_size hol
          have hneI : l ≠ (s.heap.push { cls := .type "set", dict := none, data := .set #[] 0 (.fresh 0 0 (!w.params.followText "set-order")) }).objs.size := by
            rw [Heap.size_push]; exact Nat.ne_of_lt (Nat.lt_succ_of_lt hlS)
          have hSf : s.heap.objs.size ∉ [(s.heap.push { cls := .type "set", dict := none, data := .set #[] 0 (.fresh 0 0 (!w.params.followText "set-order")) }).objs.size, l] := by
            rw [Heap.size_push]; simp only [List.mem_cons, List.mem_singleton, List.not_mem_nil, or_false, not_or]
            exact ⟨Nat.ne_of_lt (Nat.lt_succ_self _), Nat.ne_of_gt hlS⟩
          refine upd_gen ((Walks.tuple hh3 _ l hneI its.toArray).toS) Fi rfl hSf (fun i v hv => by simpa using hv) (none_of _ (Nat.le_refl _)) (fun b hb => none_of b (by
              rw [List.mem_singleton.mp hb, Heap.size_push]
              exact Nat.le_succ _)) (its.toArray.size - 0) 0 _ (by omega) (Nat.zero_le _)
            ⟨⟨_, Heap.get?_push_size _ rfl, rfl, rfl⟩, (hl1.push _)⟩ (fun b o e => Heap.get?_push_of_some _ (Heap.get?_push_of_some _ e)) (Fi.fresh _ (Heap.get?_push_of_some _ hS) fun b o e => Heap.get?_push_of_some _ (Heap.get?_push_of_some _ e)) ?_
          intro s' hm hS' hkp
          show wpAny _ _ _ _ _ _
          refine wpAny_pure ?_
          show wpAny _ _ (PySem.ret Value.none) _ _ _
          exact wpAny_pure ⟨rfl, fin s' (by simpa using hS') hkp hm.gens hm.drawn hm.os⟩
      · cases r₂ with
        | error e => exact hr₂
        | ok fl₂ =>
          cases fl₂ with
          | ret r =>
            obtain ⟨rfl, h', tk, rfl, hS', hk'⟩ := hr₂
            repeat (any_goals (first | assumption | wp_step))
            exact h _ _ hS' hk'
          | _ => exact hr₂.elim
    | _ => exact hr.elim
end
end Ev

set_option Elab.async false
set_option linter.all false
set_option maxRecDepth 100000
set_option maxHeartbeats 4000000
set_option autoImplicit false
/-! sorted(set(..)) -/
namespace Ev
open PySem L2 PySem.Spec PyProof.Rows
/-! ### sorted, each once -/
def insU (x : D) : List D → List D
  | [] => [x]
  | y :: ys => if PySem.W.dataLt y x = true then y :: insU x ys else if PySem.W.dataLt x y = true then x :: y :: ys else y :: ys
def usort : List D → List D
  | [] => []
  | x :: xs => insU x (usort xs)
/-- told apart by their order -/
def Sep (p : D → Prop) : Prop := ∀ a b, p a → p b → PySem.W.dataLt a b = false → PySem.W.dataLt b a = false → a = b
abbrev ltD (a b : D) : Prop := PySem.W.dataLt a b = true
theorem ltD_trans {a b c : D} (h : ltD a b) (k : ltD b c) : ltD a c := (listOrd itemOrd).trans _ _ _ h k
theorem ltD_irr {a : D} : ¬ ltD a a := by
  intro h
  have := (listOrd itemOrd).irrefl (PySem.W.keyToks a)
  have h : (listOrd itemOrd).blt (PySem.W.keyToks a) (PySem.W.keyToks a) = true := h
  rw [this] at h
  cases h
theorem insU_mem {p : D → Prop} (S : Sep p) {x z : D} (hx : p x) : ∀ {l : List D}, (∀ y ∈ l, p y) → (z ∈ insU x l ↔ z = x ∨ z ∈ l)
  | [], _ => by simp [insU]
  | y :: ys, h => by
    have ih := insU_mem S hx (z := z) (l := ys) fun y hy => h y (List.mem_cons_of_mem _ hy)
    unfold insU
    split
    · simp only [List.mem_cons, ih]
      constructor
      · rintro (e | e | e) <;> simp [e]
      · rintro (e | e | e) <;> simp [e]
    · rename_i h1
      split
      · simp
      · rename_i h2
        have e : x = y := S x y hx (h y List.mem_cons_self) (by simpa using h2) (by simpa using h1)
        subst e
        simp
theorem insU_sorted {p : D → Prop} (S : Sep p) {x : D} (hx : p x) : ∀ {l : List D}, (∀ y ∈ l, p y) → l.Pairwise ltD → (insU x l).Pairwise ltD
  | [], _, _ => by simp [insU]
  | y :: ys, h, q => by
    obtain ⟨q1, q2⟩ := List.pairwise_cons.mp q
    have hy := fun z hz => h z (List.mem_cons_of_mem y hz)
    unfold insU
    split
    · rename_i c
      refine List.pairwise_cons.mpr ⟨fun z hz => ?_, insU_sorted S hx hy q2⟩
      rcases (insU_mem S hx hy).mp hz with rfl | hz
      · exact c
      · exact q1 z hz
    · split
      · rename_i c
        refine List.pairwise_cons.mpr ⟨fun z hz => ?_, q⟩
        rcases List.mem_cons.mp hz with rfl | hz
        · exact c
        · exact ltD_trans c (q1 z hz)
      · exact q
theorem usort_mem {p : D → Prop} (S : Sep p) {z : D} : ∀ {l : List D}, (∀ y ∈ l, p y) → (z ∈ usort l ↔ z ∈ l)
  | [], _ => by simp [usort]
  | x :: xs, h => by
    have hy := fun z hz => h z (List.mem_cons_of_mem x hz)
    unfold usort
    rw [insU_mem S (h x List.mem_cons_self) fun y hy' => hy y ((usort_mem S hy).mp hy'), usort_mem S hy, List.mem_cons]
theorem usort_sorted {p : D → Prop} (S : Sep p) : ∀ {l : List D}, (∀ y ∈ l, p y) → (usort l).Pairwise ltD
  | [], _ => List.Pairwise.nil
  | x :: xs, h => by
    have hy := fun z hz => h z (List.mem_cons_of_mem x hz)
    exact insU_sorted S (h x List.mem_cons_self) (fun y hy' => hy y ((usort_mem S hy).mp hy')) (usort_sorted S hy)
/-- one only rises through the same things -/
theorem rise_eq : ∀ {l m : List D}, l.Pairwise ltD → m.Pairwise ltD → (∀ z, z ∈ l ↔ z ∈ m) → l = m
  | [], [], _, _, _ => rfl
  | [], y :: ys, _, _, h => absurd ((h y).mpr List.mem_cons_self) (by simp)
  | x :: xs, [], _, _, h => absurd ((h x).mp List.mem_cons_self) (by simp)
  | x :: xs, y :: ys, h1, h2, h => by
    obtain ⟨p1, q1⟩ := List.pairwise_cons.mp h1
    obtain ⟨p2, q2⟩ := List.pairwise_cons.mp h2
    have e : x = y := by
      rcases List.mem_cons.mp ((h x).mp List.mem_cons_self) with e | e
      · exact e
      · rcases List.mem_cons.mp ((h y).mpr List.mem_cons_self) with e' | e'
        · exact e'.symm
        · exact absurd (ltD_trans (p1 y e') (p2 x e)) ltD_irr
    subst e
    rw [rise_eq q1 q2 fun z => ?_]
    constructor
    · intro hz
      rcases List.mem_cons.mp ((h z).mp (List.mem_cons_of_mem _ hz)) with e | e
      · subst e; exact absurd (p1 z hz) ltD_irr
      · exact e
    · intro hz
      rcases List.mem_cons.mp ((h z).mpr (List.mem_cons_of_mem _ hz)) with e | e
      · subst e; exact absurd (p2 z hz) ltD_irr
      · exact e
theorem nodup_le {α : Type} [BEq α] [LawfulBEq α] : ∀ {l m : List α}, l.Nodup → (∀ x ∈ l, x ∈ m) → l.length ≤ m.length
  | [], _, _, _ => Nat.zero_le _
  | x :: xs, m, h, k => by
    obtain ⟨h1, h2⟩ := List.nodup_cons.mp h
    have hx := k x List.mem_cons_self
    have := nodup_le (l := xs) (m := m.erase x) h2 fun y hy => (List.mem_erase_of_ne fun e => h1 (by rw [← e]; exact hy)).mpr (k y (List.mem_cons_of_mem _ hy))
    rw [List.length_erase_of_mem hx] at this
    have hpos : 0 < m.length := List.length_pos_of_mem hx
    rw [List.length_cons]
    omega
theorem rise_nodup {l : List D} (h : l.Pairwise ltD) : l.Nodup := by
  refine List.Pairwise.imp (fun {a b} (q : ltD a b) (e : a = b) => ?_) h
  subst e
  exact ltD_irr q
/-! ints, tuples of ints -/
theorem lt_int {i j : Int} : PySem.W.dataLt (.int i) (.int j) = decide (i < j) := by
  unfold PySem.W.dataLt
  simp only [PySem.W.keyToks]
  by_cases h : i = j
  · subst h
    rw [show decide (i < i) = false by simp]
    exact lex_irrefl (O := itemOrd) _
  · by_cases h2 : i < j
    · simp [PyProof.Rows.lexLt, h, h2, itemLt]
    · simp [PyProof.Rows.lexLt, h, h2, itemLt]
def tupI (k : List Int) : D := .tuple (k.map PyData.int)
theorem toksI_inj : ∀ {k l : List Int}, PySem.W.keyToksAll (k.map PyData.int) = PySem.W.keyToksAll (l.map PyData.int) → k = l
  | [], [], _ => rfl
  | [], y :: ys, h => by simp [PySem.W.keyToksAll] at h
  | x :: xs, [], h => by simp [PySem.W.keyToksAll] at h
  | x :: xs, y :: ys, h => by
    simp only [List.map_cons, PySem.W.keyToksAll, PySem.W.keyToks, List.cons_append, List.nil_append, List.cons.injEq, true_and, Sum.inl.injEq] at h
    rw [h.1, toksI_inj h.2]
theorem sep_int : Sep fun d => isI d = true := fun a b ha hb h1 h2 => by
  obtain ⟨i, rfl⟩ := isI_int ha
  obtain ⟨j, rfl⟩ := isI_int hb
  rw [lt_int] at h1 h2
  simp only [decide_eq_false_iff_not] at h1 h2
  congr 1
  omega
theorem ints_map : ∀ {ds : List D}, ds.all isI = true → ∃ ns : List Int, ds = ns.map PyData.int
  | [], _ => ⟨[], rfl⟩
  | d :: ds, h => by
    rw [List.all_cons, Bool.and_eq_true] at h
    obtain ⟨i, rfl⟩ := isI_int h.1
    obtain ⟨ns, rfl⟩ := ints_map h.2
    exact ⟨i :: ns, rfl⟩
theorem isTI_is {d : D} (h : isTI d = true) : ∃ k, d = tupI k := by
  obtain ⟨ds, rfl, h1⟩ := isTI_tup h
  obtain ⟨ns, rfl⟩ := ints_map h1
  exact ⟨ns, rfl⟩
theorem sep_tup : Sep fun d => isTI d = true := fun a b ha hb h1 h2 => by
  obtain ⟨i, rfl⟩ := isTI_is ha
  obtain ⟨j, rfl⟩ := isTI_is hb
  have e := lex_total (O := itemOrd) _ _ h1 h2
  unfold tupI at e ⊢
  simp only [PySem.W.keyToks] at e
  rw [toksI_inj e]
theorem tupI_inj {k l : List Int} (h : tupI k = tupI l) : k = l := by
  unfold tupI at h
  have h := PyData.tuple.inj h
  have : PySem.W.keyToksAll (k.map PyData.int) = PySem.W.keyToksAll (l.map PyData.int) := by rw [h]
  exact toksI_inj this
def dSortSet (ds : List D) : Option (List D) :=
  if ds.all isI = true then (if (usort ds).length < 64 ∧ ds.length < 4000 then some (usort ds) else none)
  else if ds.all isTI = true then (if (usort ds).length < 64 then some (usort ds) else none) else none
/-! ### filling -/
section
variable {P : Program} {w : World} {A : Around} {s : Shared}
theorem fill_ints (h0 : Heap) (S : Addr) {its : List Value} {ns : List Int} (hi : IntsAre its ns) (hb : ns.length < 4000) : Fill P w A h0 S its fun h i => ∃ c, c ≤ i ∧ SetR w h S (fun j => decide (j ∈ ns.take i)) c where
  fresh h hS _ := ⟨0, Nat.le_refl _, setR_new_at hS⟩
  keep h h' i q _ k := by
    obtain ⟨c, hc, R⟩ := q
    exact ⟨c, hc, R.at k⟩
  add B i v s E Q hu hv q _ k := by
    obtain ⟨c, hc, R⟩ := q
    have hl := IntsAre.length hi
    have hil : i < ns.length := by rw [← hl]; exact (List.getElem?_eq_some_iff.mp hv).1
    obtain ⟨t, e⟩ := PyProof.Rows.IntsAre.int_at hi i v hv
    rw [List.getD_eq_getElem?_getD, List.getElem?_eq_getElem hil] at e
    have e : v = .int ns[i] t := e
    subst e
    refine wpAny_bind ((intKind P w).pyHash (k := ns[i]) (intKind_is _ _ _ _) ?_)
    refine setR_add_hashed (s := { s with toks := s.toks + 1 }) R (by unfold scanBound; omega) fun h' hsb hS2 => ?_
    refine k _ h' _ hsb (Nat.le_succ _) ⟨(if decide (ns[i] ∈ ns.take i) = true then c else c + 1), by split <;> omega, hS2.congr fun j => ?_⟩
    have e : (j ∈ ns.take (i + 1)) ↔ (j ∈ ns.take i ∨ j = ns[i]) := by
      rw [List.take_add_one, List.getElem?_eq_getElem hil, List.mem_append]
      simp only [Option.toList_some, List.mem_singleton]
    simp only [e, Bool.decide_or]
theorem fill_tups (h0 : Heap) (S : Addr) (ks : List (Addr × List Int)) (hk : ∀ p ∈ ks, IsT P w h0 p.2 p.1) (hu : A.units < cLine) {N : List (List Int)} (hN : ∀ p ∈ ks, p.2 ∈ N) (hN64 : N.length < 64) :
    Fill P w A h0 S (ks.map fun p => Value.ref p.1) fun h i => ∃ L es ep t, SetTR P w h S L es ep t ∧ Got ks i L where
  fresh h hS kp := ⟨[], #[], 0, _, setTR_fresh hS, Got.zero ks⟩
  keep h h' i q kp k := by
    obtain ⟨L, es, ep, t, R, g⟩ := q
    exact ⟨L, es, ep, t, R.keep k fun p hp => isT_keep (hk p (List.mem_of_mem_take (g.sub p hp))) kp, g⟩
  add B i v s E Q hu' hv q kp k := by
    obtain ⟨L, es, ep, t, R, g⟩ := q
    rw [List.getElem?_map] at hv
    cases hp : ks[i]? with
    | none => rw [hp] at hv; cases hv
    | some p =>
      rw [hp] at hv
      have hv : Value.ref p.1 = v := Option.some.inj hv
      subst hv
      have hx : IsT P w s.heap p.2 p.1 := isT_keep (hk p (List.mem_of_getElem? hp)) kp
      refine wpAny_bind (wpAny_pyHash_tuple (by omega) hx ?_)
      have inN : ∀ q ∈ L, q.2 ∈ N := fun q hq => hN q (List.mem_of_mem_take (g.sub q hq))
      have hLN : L.length ≤ N.length := by
        have := nodup_le (l := L.map (·.2)) (m := N) R.nd fun x hx => by
          obtain ⟨q, hq, e⟩ := List.mem_map.mp hx
          exact e ▸ inN q hq
        rwa [List.length_map] at this
      by_cases hm : p.2 ∈ L.map (·.2)
      · -- it is there
        obtain ⟨o, ho, hex, hd⟩ := R.ob
        show wpAny _ _ (setAddHashed S (.ref p.1) (thash P w p.2)) _ _ { s with toks := s.toks + (p.2.length + 1) }
        unfold setAddHashed
        refine wpAny_holding ?_
        rw [show (100000 : Nat) = 99999 + 1 from rfl, setAddHashedIn_succ]
        refine wpAny_bind (wpAny_setState_of ho hd R.fits ?_)
        dsimp only
        refine wp_if_neg (by simp [byScan, Value.scannable]) ?_
        try refine wpAny_bind (wpAny_pure ?_)
        refine wpAny_bind (search_at (s := { s with toks := s.toks + (p.2.length + 1) }) R hx (by omega) (fun _ => ?_) fun K z _ _ => absurd hm z)
        dsimp only
        exact wpAny_pure (k false s.heap _ (Heap.SameBut.refl S s.heap) (Nat.le_add_right _ _) ⟨L, es, ep, t, R, g.same hp hm⟩)
      · have hLN' : L.length + 1 ≤ N.length := by
          have := nodup_le (l := p.2 :: L.map (·.2)) (m := N) (List.nodup_cons.mpr ⟨hm, R.nd⟩) fun x hx => by
            rcases List.mem_cons.mp hx with e | hx
            · exact e ▸ hN p (List.mem_of_getElem? hp)
            · obtain ⟨q, hq, e⟩ := List.mem_map.mp hx
              exact e ▸ inN q hq
          rwa [List.length_cons, List.length_map] at this
        refine add_at (s := { s with toks := s.toks + (p.2.length + 1) }) R hx (by omega) (by omega) fun b h' L' es' ep' t' hsb hS2 c1 c2 => ?_
        exact k b h' _ hsb (Nat.le_add_right _ _) ⟨L', es', ep', t', hS2, g.more hp (c2 hm)⟩
end
end Ev

set_option Elab.async false
set_option linter.all false
set_option maxRecDepth 100000
set_option maxHeartbeats 4000000
set_option autoImplicit false
/-! sorted(set(..)), len(set(..)) -/
namespace Ev
open PySem L2 PySem.Spec PyProof.Rows
theorem perm_lift {α β : Type} {f : α → β} : ∀ {vs ms : List β}, vs.Perm ms → ∀ {rs : List α}, ms = rs.map f → ∃ rs' : List α, rs'.Perm rs ∧ vs = rs'.map f := by
  intro vs ms h
  induction h with
  | nil => intro rs e; exact ⟨[], by cases rs with | nil => exact .refl _ | cons => simp at e, rfl⟩
  | cons x _ ih =>
    intro rs e
    cases rs with
    | nil => simp at e
    | cons r rs =>
      simp only [List.map_cons, List.cons.injEq] at e
      obtain ⟨rs', p, q⟩ := ih e.2
      exact ⟨r :: rs', p.cons r, by rw [List.map_cons, e.1, q]⟩
  | swap x y l =>
    intro rs e
    cases rs with
    | nil => simp at e
    | cons r rs =>
      cases rs with
      | nil => simp at e
      | cons r' rs =>
        simp only [List.map_cons, List.cons.injEq] at e
        exact ⟨r' :: r :: rs, .swap _ _ _, by rw [List.map_cons, List.map_cons, e.1, e.2.1, e.2.2]⟩
  | trans _ _ ih1 ih2 =>
    intro rs e
    obtain ⟨rs1, p1, q1⟩ := ih2 e
    obtain ⟨rs2, p2, q2⟩ := ih1 q1
    exact ⟨rs2, p2.trans p1, q2⟩
section
variable {P : Program} {w : World} {A : Around} {E : Value → Shared → Prop} {s : Shared}
/-- what a set at a holds: values with their data -/
structure Holds (P : Program) (w : World) (h : Heap) (a : Addr) (rs : List (Value × D)) : Prop where
  ex : ∃ es ep t, SetAt h a es ep t ∧ (∃ o, h.get? a = some o ∧ o.ExactSet ∧ o.data = .set es ep t) ∧ t.fits es.size = true ∧ es.size < scanBound ∧ Ris t.place.toList ∧ (w.params.followText "set-order" = true ∨ t.led = true) ∧ es.toList.map (·.2) = rs.map (·.1)
theorem holds_ints {h : Heap} {a : Addr} {S : Int → Bool} {c : Nat} (R : SetR w h a S c) : ∃ rs : List (Value × D), Holds P w h a rs ∧ (rs.map (·.2)).Nodup ∧ (∀ r ∈ rs, ∃ k tk, r = (.int k tk, .int k) ∧ S k = true) ∧ ∀ k, S k = true → PyData.int k ∈ rs.map (·.2) := by
  obtain ⟨o, es, ep, t, ho, hex, hd, g, nd, hm, hb, hf, hn, hr, hl⟩ := R
  refine ⟨es.toList.map fun e => (e.2, .int (keyOf e)), ⟨es, ep, t, ⟨o, ho, hex.1, hd⟩, ⟨o, ho, hex, hd⟩, hf, hb, hr, hl, by rw [List.map_map] <;> rfl⟩, ?_, fun r hr => ?_, fun k hk => ?_⟩
  · rw [List.map_map]
    have : (es.toList.map ((·.2) ∘ fun e => (e.2, PyData.int (keyOf e)))) = (es.toList.map keyOf).map PyData.int := by rw [List.map_map] <;> rfl
    rw [this]
    exact List.pairwise_map.mpr (nd.imp fun {a b} q e => q (PyData.int.inj e))
  · obtain ⟨e, he, rfl⟩ := List.mem_map.mp hr
    obtain ⟨k, tk, h1, h2⟩ := g e he
    have hk : keyOf e = k := by unfold keyOf; rw [h1]
    exact ⟨k, tk, by rw [hk, h1], (hm k).mpr (List.mem_map.mpr ⟨e, he, hk⟩)⟩
  · obtain ⟨e, he, q⟩ := List.mem_map.mp ((hm k).mp hk)
    rw [List.map_map]
    exact List.mem_map.mpr ⟨e, he, by rw [← q] <;> rfl⟩
theorem holds_tups {a : Addr} {L : List (Addr × List Int)} {es : Array (Int × Value)} {ep : Nat} {t : SetTable} (R : SetTR P w s.heap a L es ep t) : Holds P w s.heap a (L.map fun p => (Value.ref p.1, tupI p.2)) ∧ ((L.map fun p => (Value.ref p.1, tupI p.2)).map (·.2)).Nodup := by
  obtain ⟨o, ho, hex, hd⟩ := R.ob
  have hsz := R.size
  have hfew := R.few
  refine ⟨⟨es, ep, t, ⟨o, ho, hex.1, hd⟩, ⟨o, ho, hex, hd⟩, R.fits, by unfold scanBound; omega, R.tab.ris, R.led, ?_⟩, ?_⟩
  · rw [R.rows]
    unfold rowsOf
    rw [List.map_map, List.map_map] <;> rfl
  · have : ((L.map fun p => (Value.ref p.1, tupI p.2)).map (·.2)) = (L.map (·.2)).map tupI := by rw [List.map_map, List.map_map] <;> rfl
    rw [this]
    exact List.pairwise_map.mpr (R.nd.imp fun {a b} q e => q (tupI_inj e))
/-- sorted of a set, by the data of what it holds -/
theorem sorted_holds {a : Addr} {rs : List (Value × D)} {Q : Value → Shared → Prop} (Ho : Holds P w s.heap a rs) (hh : A.handled = none) (hr : ∀ r ∈ rs, ∃ as, Reads s.heap r.1 r.2 as) (ok : PySem.W.AllAlike (rs.map (·.2))) (hn : ∀ r ∈ rs, r.2 ≠ .none) (hu : ∀ r ∈ rs, A.units + 2 + r.2.depth < cLine)
    (hz : rs.length ≤ 4000)
    (hQ : ∀ (rs' : List (Value × D)) (s' : Shared) p c (out : List Value), rs'.Perm rs → (∀ b o, s.heap.get? b = some o → s'.heap.get? b = some o) → s'.gens = s.gens → s'.os = s.os → s.heap.objs.size ≤ p → s'.heap.get? p = some (seqObj "list" out.toArray c) →
      PySem.W.EachIs (fun u d => (u, d) ∈ rs) out (isort (rs'.map (·.2))) → Q (.ref p) s') :
    wpAny (model P w) A (call (.builtin "sorted") [.ref a]) Q E s := by
  obtain ⟨es, ep, t, ha, _, hf, hsz, ris, led, he⟩ := Ho.ex
  refine Calls.call_function_entry kind_sorted plain_sorted entry_sorted (args_sorted1 _) ?_
  unfold Builtin.«sorted»
  refine wpAny_bind (m := checkCount "sorted" 1 1 _) (wpAny_pure ?_)
  refine wpAny_bind (collect_set (A := A.in1) hh ha hf hsz ris led fun s1 vs k1 hz1 g1 o1 pm => ?_)
  rw [he] at pm
  obtain ⟨rs', pr, ev⟩ := perm_lift pm rfl
  have hvl : vs.length ≤ sizeLine := by
    rw [ev, List.length_map, pr.length_eq, sizeLine_eq]
    omega
  have mem : ∀ r ∈ rs', r ∈ rs := fun r hr => pr.mem_iff.mp hr
  -- each value with its datum
  have each : ∀ l : List (Value × D), (∀ r ∈ l, r ∈ rs) → PySem.W.EachIs (fun u d => (u, d) ∈ rs) (l.map (·.1)) (l.map (·.2)) := by
    intro l
    induction l with
    | nil => intro _; exact .nil
    | cons r l ih => intro h; exact .cons (h r List.mem_cons_self) (ih fun x hx => h x (List.mem_cons_of_mem _ hx))
  have e0 : PySem.W.EachIs (fun u d => (u, d) ∈ rs) vs (rs'.map (·.2)) := by rw [ev]; exact each rs' mem
  have hal : PySem.W.AllAlike (rs'.map (·.2)) := fun d hd e he => ok d ((pr.map _).mem_iff.mp hd) e ((pr.map _).mem_iff.mp he)
  refine wpAny_bind (wpAny_newList ?_ hvl)
  have hoL : (s1.heap.push (seqObj "list" vs.toArray 0)).get? s1.heap.objs.size = some (seqObj "list" vs.toArray 0) := Heap.get?_push_size _ rfl
  have old : ∀ b o, s.heap.get? b = some o → (PySem.W.sortingHeap (s1.heap.push (seqObj "list" vs.toArray 0)) s1.heap.objs.size vs).get? b = some o := fun b o e => by
    have e1 := k1 b o e
    exact PySem.W.sortingHeap_old (Nat.ne_of_lt (Heap.lt_size e1)) (Heap.get?_push_of_some _ e1)
  have er : PySem.W.EachIs (fun u d => ∃ as, Reads (PySem.W.sortingHeap (s1.heap.push (seqObj "list" vs.toArray 0)) s1.heap.objs.size vs) u d as) vs (rs'.map (·.2)) := e0.mono fun u d h => by
    obtain ⟨as, r1⟩ := hr (u, d) h
    exact ⟨as, PyProof.Rows.Reads.keeps old r1⟩
  have S := sortsAt_all (prog := P) (w := w) (A := A.in1.in1) (s := { s1 with heap := PySem.W.sortingHeap (s1.heap.push (seqObj "list" vs.toArray 0)) s1.heap.objs.size vs }) er hal (fun d hd => by
    obtain ⟨r, h1, rfl⟩ := List.mem_map.mp hd
    exact hn r (mem r h1)) (fun d hd => by
    obtain ⟨r, h1, rfl⟩ := List.mem_map.mp hd
    have := hu r (mem r h1)
    show A.units + 1 + 1 + r.2.depth < cLine
    omega)
  refine wpAny_bind (wpAny_holding (wpAny_call_entry slot_list_sort ⟨_, hoL, rfl⟩ entry_list_sort ?body (args_list_sort _)))
  case body =>
    refine PySem.W.list_sort_vals (s := { s1 with heap := s1.heap.push (seqObj "list" vs.toArray 0) }) hoL S hvl ⟨_, rfl, wpAny_pure ⟨_, rfl, ?_⟩⟩
    have out := PySem.W.sortVals_each (κ := PySem.W.dataKind (PySem.W.sortingHeap (s1.heap.push (seqObj "list" vs.toArray 0)) s1.heap.objs.size vs) (rs'.map (·.2))) (rev := false) (fun b => PySem.W.keyToks b) e0 (PySem.W.each_keys hal er)
    have out : PySem.W.EachIs (fun u d => (u, d) ∈ rs) _ ((rs'.map (·.2)).mergeSort leD) := out
    rw [← isort_is] at out
    obtain ⟨c, hc⟩ := sortedHeap_at (vs := vs) (out := (PySem.W.sortVals (PySem.W.dataKind (PySem.W.sortingHeap (s1.heap.push (seqObj "list" vs.toArray 0)) s1.heap.objs.size vs) (rs'.map (·.2))) false vs vs).toArray) hoL
    refine hQ rs' { s1 with heap := sortedHeap (s1.heap.push (seqObj "list" vs.toArray 0)) s1.heap.objs.size vs _ } s1.heap.objs.size c _ pr (fun b u e => ?_) g1 o1 hz1 hc out
    have q := k1 b u e
    have hlt := Heap.lt_size q
    show (sortedHeap (s1.heap.push (seqObj "list" vs.toArray 0)) s1.heap.objs.size vs _).get? b = some u
    rw [sortedHeap_old (Nat.ne_of_lt hlt) (by rw [size_push']; exact Nat.lt_succ_of_lt hlt)]
    exact Heap.get?_push_of_some _ q
end
/-- the items of a list or a tuple -/
def itemsD : D → Option (List D)
  | .list ds => some ds
  | .tuple ds => some ds
  | _ => none
section
variable {X : Cx} {W : WX} {pos : Pos}
theorem each_keep {R R' : Value → D → Prop} {us : List Value} {ds : List D} (h : PySem.W.EachIs R us ds) (k : ∀ u d, R u d → R' u d) : PySem.W.EachIs R' us ds := h.mono k
/-- a made set, from values of which the data are known -/
theorem made_set {pins : List (Addr × Obj)} {σ : L2.St} {H : Hp} {s : Shared} {l : Addr} {vs : List V} {G : Hp} {ds os : List D} {E : Value → Shared → Prop} {Q : Value → Shared → Prop} (hc : X.calm = true) (hu : X.A.units + 64 < cLine) (I : Inv X pins σ H s) (hs : SqL X.K H l vs ∨ SqT X.K H l vs) (sub : Sub G H) (hd : DpAll X.K G vs ds) (e : dSortSet ds = some os)
    (h : ∀ (h' : Heap) (tk : Nat) (rs : List (Value × D)), Inv X pins σ H { s with heap := h', toks := tk } → Holds X.prog X.w h' s.heap.objs.size rs → (rs.map (·.2)).Nodup → (∀ r ∈ rs, r.2 ∈ ds ∧ ∃ v, RelV v r.1 ∧ Dp X.K G v r.2) → (∀ d ∈ ds, d ∈ rs.map (·.2)) → rs.length < 64 → (ds.all isI = true ∨ ds.all isTI = true) →
      Q (.ref s.heap.objs.size) { s with heap := h', toks := tk }) : wpAny (model X.prog X.w) X.A (call (.type "set") [.ref l]) Q E s := by
  have src : ∃ its : List Value, Vals vs its ∧ (s.heap.IsList l its.toArray ∨ s.heap.IsTuple l its.toArray) ∧ vs.length ≤ sizeLine := by
    rcases hs with hs | hs
    · obtain ⟨its, rv, hl, hz⟩ := I.list hs
      exact ⟨its, rv, .inl hl.isList, hz⟩
    · obtain ⟨its, rv, hl, hz⟩ := I.tuple hs
      exact ⟨its, rv, .inr (show s.heap.IsTuple l its.toArray from hl), hz⟩
  obtain ⟨its, rv, hl, hz⟩ := src
  have hh := I.ok.hd hc
  have hlen := rv.length
  unfold dSortSet at e
  by_cases hI : ds.all isI = true
  · rw [if_pos hI] at e
    split at e
    · rename_i hb
      obtain ⟨ns, rfl⟩ := ints_map hI
      have ev := dps_int_inv hd
      subst ev
      have hin : IntsAre its ns := by simpa using rv.ints
      rw [List.length_map] at hb
      refine set_gen hh hl (fill_ints (A := X.A.in1.in1.in1) s.heap s.heap.objs.size hin hb.2) fun h' tk ⟨c, hc', R⟩ kp => ?_
      have e1 : ns.take its.length = ns := List.take_of_length_le (by rw [List.length_map] at hlen; omega)
      rw [e1] at R
      obtain ⟨rs, Ho, nd, hr, ha⟩ := holds_ints (P := X.prog) R
      have hrs : ∀ r ∈ rs, r.2 ∈ ns.map PyData.int := fun r h1 => by
        obtain ⟨k, tk, rfl, q⟩ := hr r h1
        exact List.mem_map.mpr ⟨k, by simpa using q, rfl⟩
      refine h h' tk rs (I.kept kp) Ho nd (fun r h1 => ⟨hrs r h1, ?_⟩) (fun d h1 => ?_) ?_ (.inl hI)
      · obtain ⟨k, tk, rfl, q⟩ := hr r h1
        exact ⟨.int k, ⟨tk, rfl⟩, .int k⟩
      · obtain ⟨k, h2, rfl⟩ := List.mem_map.mp h1
        exact ha k (by simpa using h2)
      · have nodup_le : ∀ {l m : List D}, l.Nodup → (∀ x ∈ l, x ∈ m) → l.length ≤ m.length := by
          classical
          exact fun h k => Ev.nodup_le h k
        have := nodup_le (l := rs.map (·.2)) (m := usort (ns.map PyData.int)) nd fun x hx => by
          obtain ⟨r, h1, rfl⟩ := List.mem_map.mp hx
          exact (usort_mem sep_int (fun y hy => List.all_eq_true.mp hI y hy)).mpr (hrs r h1)
        rw [List.length_map] at this
        omega
    · cases e
  · rw [if_neg hI] at e
    by_cases hT : ds.all isTI = true
    · rw [if_pos hT] at e
      split at e
      · rename_i hb
        -- the tuples by their places
        have places : ∀ {vs : List V} {ds : List D}, DpAll X.K G vs ds → ds.all isTI = true → ∃ ks : List (Addr × List Int), vs = ks.map (fun p => V.ref p.1) ∧ ds = ks.map (fun p => tupI p.2) ∧ ∀ p ∈ ks, SqT X.K G p.1 (p.2.map V.int) := by
          intro vs
          induction vs with
          | nil => intro ds h _; cases h; exact ⟨[], rfl, rfl, fun p hp => by cases hp⟩
          | cons v vs ih =>
            intro ds h ha
            cases ds with
            | nil => cases h
            | cons d ds =>
              cases h with
              | cons h1 h2 =>
                rw [List.all_cons, Bool.and_eq_true] at ha
                obtain ⟨k, rfl⟩ := isTI_is ha.1
                obtain ⟨ks, rfl, rfl, q⟩ := ih h2 ha.2
                unfold tupI at h1
                obtain ⟨a, ws, rfl, q1, q2⟩ := dvTup (dv_of (fun _ _ z => z) h1)
                rw [dps_int_inv q2] at q1
                exact ⟨(a, k) :: ks, rfl, rfl, fun p hp => by
                  rcases List.mem_cons.mp hp with rfl | hp
                  · exact q1
                  · exact q p hp⟩
        obtain ⟨ks, rfl, rfl, hk⟩ := places hd hT
        have ei := refs_of_vals rv
        subst ei
        letI : BEq (List Int) := instBEqOfDecidableEq
        have fi := fill_tups (P := X.prog) (w := X.w) (A := X.A.in1.in1.in1) s.heap s.heap.objs.size ks (fun p hp => I.isT (sqT_mono sub (hk p hp))) (by show X.A.units + 1 + 1 + 1 < cLine; omega)
          (N := (usort (ks.map fun p => tupI p.2)).map fun d => match d with | .tuple xs => xs.map (fun x => match x with | .int i => i | _ => 0) | _ => []) (fun p hp => by
            have m : tupI p.2 ∈ usort (ks.map fun p => tupI p.2) := (usort_mem sep_tup (fun y hy => List.all_eq_true.mp hT y hy)).mpr (List.mem_map.mpr ⟨p, hp, rfl⟩)
            refine List.mem_map.mpr ⟨_, m, ?_⟩
            show (p.2.map PyData.int).map _ = p.2
            rw [List.map_map]
            exact List.map_id'' (fun x => rfl) _) (by rw [List.length_map]; exact hb)
        refine set_gen hh hl fi fun h' tk ⟨L, es, ep, t, R, g⟩ kp => ?_
        obtain ⟨Ho, nd⟩ := holds_tups (s := { s with heap := h', toks := tk }) R
        rw [List.length_map] at g
        refine h h' tk _ (I.kept kp) Ho nd (fun r h1 => ?_) (fun d h1 => ?_) (by rw [List.length_map]; exact R.few) (.inr hT)
        · obtain ⟨q, hq, rfl⟩ := List.mem_map.mp h1
          have hq' := List.mem_of_mem_take (g.sub q hq)
          exact ⟨List.mem_map.mpr ⟨q, hq', rfl⟩, .ref q.1, rfl, .tup (hk q hq') (dps_ints _)⟩
        · obtain ⟨p, hp, rfl⟩ := List.mem_map.mp h1
          obtain ⟨q, hq, e⟩ := List.mem_map.mp (g.all p (by rw [List.take_length]; exact hp))
          rw [List.map_map]
          exact List.mem_map.mpr ⟨q, hq, by show tupI q.2 = tupI p.2; rw [e]⟩
      · cases e
    · rw [if_neg hT] at e
      cases e
def tSortSet (K : PySem.W.Frag) (te : TE) : TE := fun σ H Q => te σ H fun x H1 => ∃ l vs G ds os, x = .ref l ∧ (SqL K H1 l vs ∨ SqT K H1 l vs) ∧ Sub G H1 ∧ DpAll K G vs ds ∧ dSortSet ds = some os ∧ ∀ p ws, H1 p = none → DpAll K G ws os → Q (.ref p) (upd H1 p (.lst ws))
theorem pe_sortSet {e : Expr} {te : TE} {p p2 q : Pos} (hc : X.calm = true) (hu : X.A.units + 64 < cLine) (hg : Gl X "sorted") (hm : X.mg "sorted" = none) (hg2 : Gl X "set") (hm2 : X.mg "set" = none) (he : PE X e te)
    (na : starEach [e] X.env = (false, eval e X.env) :: starEach [] X.env := by rfl) : PE X (.Call (.Name "sorted" p) [.Call (.Name "set" p2) [e] [] q] [] pos) (tSortSet X.K te) := by
  refine ⟨fun pins s σ H Q I h => ?_⟩
  refine Call_ (ld_blt I hg hm PyProof.Rows.boot_sorted ?_)
  refine PyProof.Rows.callWith_builtin1 (PyProof.Rows.args_cons ?_ rfl) rfl rfl
  refine Call_ (ld_blt I hg2 hm2 PyProof.Rows.boot_set ?_)
  refine PyProof.Rows.callWith_type1 (PyProof.Rows.args_cons (thn (he.run pins s σ H _ I h) fun v s1 ⟨x, H1, I1, r1, q1⟩ => PyProof.Rows.args_nil ?_) na) na rfl
  obtain ⟨l, vs, G, ds, os, rfl, hs, sub, hd, eo, q1⟩ := q1
  cases r1
  refine made_set hc hu I1 hs sub hd eo fun h' tk rs I2 Ho nd hr ha hlen hk => ?_
  refine PyProof.Rows.args_nil ?_
  have sp : ∃ p : D → Prop, Sep p ∧ (∀ d ∈ ds, p d) ∧ usort ds = os ∧ (∀ d ∈ ds, d ≠ .none) ∧ (∀ d ∈ ds, d.depth ≤ 60) ∧ PySem.W.AllAlike ds := by
    have so : sortOk ds = true := by
      unfold sortOk
      rcases hk with hk | hk <;> rw [hk] <;> simp
    obtain ⟨t1, t2, t3, _⟩ := sortOk_all so
    unfold dSortSet at eo
    by_cases hI : ds.all isI = true
    · rw [if_pos hI] at eo
      split at eo
      · exact ⟨_, sep_int, fun d hd => List.all_eq_true.mp hI d hd, Option.some.inj eo, t2, t3, t1⟩
      · cases eo
    · rw [if_neg hI] at eo
      by_cases hT : ds.all isTI = true
      · rw [if_pos hT] at eo
        split at eo
        · exact ⟨_, sep_tup, fun d hd => List.all_eq_true.mp hT d hd, Option.some.inj eo, t2, t3, t1⟩
        · cases eo
      · rw [if_neg hT] at eo; cases eo
  obtain ⟨p, S, hp, eo', t2, t3, t1⟩ := sp
  refine sorted_holds (s := { s1 with heap := h', toks := tk }) Ho (I1.ok.hd hc) (fun r h1 => ?_) (fun d hd e he => ?_) (fun r h1 => t2 _ (hr r h1).1) (fun r h1 => by
    have := t3 _ (hr r h1).1
    omega) (by omega) fun rs' s' pp c out pr kp g o hz hat hout => ?_
  · obtain ⟨_, v, rv, dv⟩ := hr r h1
    exact Dp.reads I2 r.2 v r.1 (dp_mono sub dv) rv
  · obtain ⟨r, h1, rfl⟩ := List.mem_map.mp hd
    obtain ⟨r', h1', rfl⟩ := List.mem_map.mp he
    exact t1 _ (hr r h1).1 _ (hr r' h1').1
  · -- the sorted data are the rising ones
    have ndr : (rs'.map (·.2)).Nodup := (pr.map _).nodup_iff.mpr nd
    have srt := isort_sorted (rs'.map (·.2))
    have prm : (isort (rs'.map (·.2))).Perm (rs'.map (·.2)) := by rw [isort_is]; exact List.mergeSort_perm _ _
    have memP : ∀ d ∈ isort (rs'.map (·.2)), p d := fun d h1 => by
      obtain ⟨r, h2, rfl⟩ := List.mem_map.mp (prm.mem_iff.mp h1)
      exact hp _ (hr r (pr.mem_iff.mp h2)).1
    have lts : (isort (rs'.map (·.2))).Pairwise ltD := by
      have nd2 : (isort (rs'.map (·.2))).Nodup := prm.nodup_iff.mpr ndr
      have both := srt.and nd2
      refine List.Pairwise.imp_of_mem (fun {a b} ha hb q => ?_) both
      obtain ⟨q1, q2⟩ := q
      rw [leD_eq] at q1
      cases z : PySem.W.dataLt a b with
      | true => exact z
      | false => exact absurd (S a b (memP a ha) (memP b hb) z (by simpa using q1)) q2
    have eq : isort (rs'.map (·.2)) = os := by
      rw [← eo']
      refine rise_eq lts (usort_sorted S hp) fun z => ?_
      rw [prm.mem_iff, (pr.map _).mem_iff, usort_mem S hp]
      exact ⟨fun h1 => by
        obtain ⟨r, h2, rfl⟩ := List.mem_map.mp h1
        exact (hr r h2).1, ha z⟩
    rw [eq] at hout
    have h2 : PySem.W.EachIs (fun u d => ∃ v, RelV v u ∧ Dp X.K G v d) out os := hout.mono fun u d h1 => (hr (u, d) h1).2
    obtain ⟨ws, w1, w2⟩ := each_vals h2
    have hn : H1 pp = none := I2.hok.fresh hz
    have hol : ws.length ≤ sizeLine := by
      rw [dps_len (paired_dps w2), ← eq, prm.length_eq, List.length_map, pr.length_eq, sizeLine_eq]
      omega
    have J : Inv X pins σ (upd H1 pp (.lst ws)) { s1 with heap := s'.heap, gens := s'.gens, drawn := s'.drawn, toks := s'.toks } :=
      Inv.call (s := { s1 with heap := h', toks := tk }) (ch := []) I2 (Un.laid kp hz hn) (I2.hok.laid kp hz ⟨hol, out, c, w1, hat⟩) (by rw [g]; exact I2.bare) (fun _ z => nomatch z)
    have e : s' = { s1 with heap := s'.heap, gens := s'.gens, drawn := s'.drawn, toks := s'.toks } := by
      cases s'
      cases s1
      cases o
      rfl
    rw [e]
    exact ⟨.ref pp, _, J, rfl, q1 pp ws hn (paired_dps w2)⟩
end
end Ev

set_option Elab.async false
set_option linter.all false
set_option maxRecDepth 100000
set_option maxHeartbeats 4000000
set_option autoImplicit false
/-! sets as expressions; repeated lists -/
namespace Ev
open PySem L2 PySem.Spec PyProof.Rows
section
variable {X : Cx} {W : WX} {pos : Pos}
theorem items_dv {K : PySem.W.Frag} {G H : Hp} (s : Sub G H) {x : V} {d : D} {ds : List D} (h : Dv K G H x d) (e : itemsD d = some ds) : ∃ l vs, x = .ref l ∧ (SqL K H l vs ∨ SqT K H l vs) ∧ DpAll K G vs ds := by
  cases d with
  | list ds' => cases e; obtain ⟨a, vs, rfl, h1, h2⟩ := h; exact ⟨a, vs, rfl, .inl h1, h2⟩
  | tuple ds' => cases e; obtain ⟨a, vs, rfl, h1, h2⟩ := dvTup h; exact ⟨a, vs, rfl, .inr (sqT_mono s h1), h2⟩
  | none | bool | int | str | dict => cases e
def eSortSet (f : M RV) : M RV := bnd f fun a ρ => match (der ρ a).bind itemsD with
  | some ds => (match dSortSet ds with
    | some os => .ok (.tmp (.lst os)) ρ
    | none => .bad)
  | none => .bad
theorem ev_sortSet {e : Expr} {f : M RV} {p p2 q : Pos} (hc : X.calm = true) (hu : X.A.units + 64 < cLine) (hg : Gl X "sorted") (hm : X.mg "sorted" = none) (hg2 : Gl X "set") (hm2 : X.mg "set" = none) (he : EV X W e f)
    (na : starEach [e] X.env = (false, eval e X.env) :: starEach [] X.env := by rfl) : EV X W (.Call (.Name "sorted" p) [.Call (.Name "set" p2) [e] [] q] [] pos) (eSortSet f) :=
  pe_imp (pe_sortSet hc hu hg hm hg2 hm2 he na) fun σ H Q ⟨Z, ρ, E, S⟩ => by
    refine rd_of E (sat_bnd S) (fun a ρ1 v1 H1 P1 R1 S1 => ?_) fun x ρ1 cls d H1 P1 X1 e1 => e1 cls d H1 P1 X1
    cases q1 : der ρ1 a with
    | none => simp only [q1, Option.bind_none] at S1; exact S1.elim
    | some d =>
      simp only [q1, Option.bind_some] at S1
      cases q2 : itemsD d with
      | none => simp only [q2] at S1; exact S1.elim
      | some ds =>
        simp only [q2] at S1
        cases q3 : dSortSet ds with
        | none => simp only [q3] at S1; exact S1.elim
        | some os =>
          simp only [q3] at S1
          obtain ⟨l, vs, e1, h1, h2⟩ := items_dv hid_sub (der_ok P1.rel R1 q1) q2
          refine ⟨l, vs, _, ds, os, e1, h1, hid_sub, h2, q3, fun p ws n h3 => ?_⟩
          exact out_lst (K := X.K) hid_sub (Q := fun v H' => Q v H') (out_rv P1.rel (rr := .lst os) fun v H' P' R' => S1 v H' (P1.trans P') (rv_from P1 R')) n h3
end
end Ev

set_option Elab.async false
set_option linter.all false
set_option maxRecDepth 100000
set_option maxHeartbeats 4000000
set_option autoImplicit false
/-! isinstance; list(range(..)); keyword calls; defs of the text -/
namespace Ev
open PySem L2 PySem.Spec PyProof.Rows
section
variable {X : Cx} {W : WX} {pos : Pos}
/-! ### isinstance -/
theorem ev_isi {t : String} {x : Str} {e : Expr} {f : M RV} {p p2 : Pos} (hg : Gl X "isinstance") (hm : X.mg "isinstance" = none) (he : EV X W e f) (ht : PE X (.Name x p2) (tC (.ty t)))
    (hs1 : starEach [e, .Name x p2] X.env = (false, eval e X.env) :: starEach [.Name x p2] X.env := by rfl) (hs2 : starEach [.Name x p2] X.env = (false, eval (.Name x p2) X.env) :: starEach [] X.env := by rfl)
    (hpl : (backTo pos (starEach [.Name x p2] X.env)).any (·.1) = false := by rfl) : EV X W (.Call (.Name "isinstance" p) [e, .Name x p2] [] pos) (eOp1 (dIsi t) f) :=
  pe_imp (pe_callB cr_isi1 hg hm boot_isinstance (pa_cons he (pa_cons ht pa_nil hs2) hs1) (by decide) (by decide) hs1 hpl) fun σ H Q w => rd_op1 (X := X) (W := W) (r := fun x H1 Q => rIsi1 X.K t [x, .ty t] H1 Q) (fun x H Q h => ⟨x, rfl, h⟩) w
def eIsis (ts : List String) (f : M RV) : M RV := bnd f fun a => bnd (lift (pin a)) fun a ρ => match der ρ a with
  | some d => (match dIsis ts d with
    | some rr => .ok (outRV rr) ρ
    | none => .bad)
  | none => .bad
theorem ev_isis {ts : List String} {e : Expr} {es : List Expr} {f : M RV} {t : TA} {p p2 : Pos} {kk : Nat} (hg : Gl X "isinstance") (hm : X.mg "isinstance" = none) (he : EV X W e f) (ht : PA X es t) (htt : ∀ σ H Q, Q (ts.map V.ty) H → t σ H Q) (hlen : ts.length ≤ 100)
    (hs1 : starEach [e, .Tuple es kk p2] X.env = (false, eval e X.env) :: starEach [.Tuple es kk p2] X.env := by rfl) (hs2 : starEach [.Tuple es kk p2] X.env = (false, eval (.Tuple es kk p2) X.env) :: starEach [] X.env := by rfl)
    (hpl : (backTo pos (starEach [.Tuple es kk p2] X.env)).any (·.1) = false := by rfl) : EV X W (.Call (.Name "isinstance" p) [e, .Tuple es kk p2] [] pos) (eIsis ts f) :=
  pe_imp (pe_callB (cr_isis (ts := ts)) hg hm boot_isinstance (pa_cons he (pa_cons (pe_tup ht) pa_nil hs2) hs1) (by decide) (by decide) hs1 hpl) fun σ H Q ⟨Z, ρ, E, S⟩ => by
    refine rd_of E (sat_bnd S) (fun a ρ1 v1 H1 P1 R1 S1 => ?_) fun x ρ1 cls d H1 P1 X1 e1 => e1 cls d H1 P1 X1
    obtain ⟨a', ea, S1⟩ := sat_lift S1
    obtain ⟨R1, pn⟩ := pin_ok R1 ea
    refine htt _ _ _ ⟨by rw [List.length_map, sizeLine_eq]; omega, fun T n => ?_⟩
    have P2 := EPost.same P1.rel (same_upd (o := .tup (ts.map V.ty)) n)
    have R2 := pin_keep pn R1 P2 H
    cases q1 : der ρ1 a' with
    | none => simp only [q1] at S1; exact S1.elim
    | some d =>
      simp only [q1] at S1
      cases q3 : dIsis ts d with
      | none => simp only [q3] at S1; exact S1.elim
      | some rr =>
        simp only [q3] at S1
        exact ⟨v1, T, rfl, upd_same, _, d, rr, hid_sub, der_ok P2.rel R2 q1, q3, out_rv P2.rel fun v H3 P3 R3 => S1 v H3 ((P1.trans P2).trans P3) (rv_from (P1.trans P2) R3)⟩
theorem pa_tys1 {a : Expr} {t : String} (h : PE X a (tC (.ty t))) (hs : starEach [a] X.env = (false, eval a X.env) :: starEach [] X.env := by rfl) : PA X [a] (tCons (tC (.ty t)) tNil) := pa_cons h pa_nil hs
/-! ### list(range(n)) -/
def rngL (n : Int) : Option (List D) := if 0 ≤ n ∧ n ≤ 16777216 then some (rngs 0 1 n.toNat) else none
def eLrg (f : M RV) : M RV := bnd f fun a ρ => match der ρ a with
  | some (.int n) => (match rngL n with
    | some ds => .ok (.tmp (.lst ds)) ρ
    | none => .bad)
  | _ => .bad
theorem rgV_is (n : Nat) : rgV 0 n = (List.range n).map fun i : Nat => V.int (i : Int) := by
  unfold rgV
  have : ((n : Int) - 0).toNat = n := by omega
  rw [this]
  congr 1
  funext i
  congr 1
  omega
theorem dps_rng {K : PySem.W.Frag} {G : Hp} (n : Nat) : DpAll K G (rgV 0 n) (rngs 0 1 n) := by
  have e : rngs 0 1 n = ((List.range n).map fun i : Nat => ((i : Nat) : Int)).map PyData.int := by
    apply List.ext_getElem?
    intro i
    by_cases h : i < n
    · rw [rngs_get h, List.getElem?_map, List.getElem?_map, List.getElem?_range h]
      simp
    · rw [List.getElem?_eq_none (by rw [rngs_len]; omega), List.getElem?_eq_none (by simp; omega)]
  have e2 : rgV 0 n = ((List.range n).map fun i : Nat => ((i : Nat) : Int)).map V.int := by rw [rgV_is, List.map_map] <;> rfl
  rw [e, e2]
  exact dps_ints _
theorem ev_listRg {a : Expr} {f : M RV} {p p2 q : Pos} (hc : X.calm = true) (hg : Gl X "list") (hm : X.mg "list" = none) (hg2 : Gl X "range") (hm2 : X.mg "range" = none) (ha : EV X W a f)
    (na : starEach [a] X.env = (false, eval a X.env) :: starEach [] X.env := by rfl) (nb : starEach [.Call (.Name "range" p2) [a] [] q] X.env = (false, eval (.Call (.Name "range" p2) [a] [] q) X.env) :: starEach [] X.env := by rfl) :
    EV X W (.Call (.Name "list" p) [.Call (.Name "range" p2) [a] [] q] [] pos) (eLrg f) := pe_imp (pe_listRg hc hg hm (prg_1 hg2 hm2 ha na) nb) fun σ H Q ⟨Z, ρ, E, S⟩ => by
  refine rd_of E (sat_bnd S) (fun a ρ1 v1 H1 P1 R1 S1 => ?_) fun x ρ1 cls d H1 P1 X1 e1 => e1 cls d H1 P1 X1
  cases q1 : der ρ1 a with
  | none => simp only [q1] at S1; exact S1.elim
  | some d =>
    simp only [q1] at S1
    cases d with
    | int n =>
      simp only at S1
      unfold rngL at S1
      split at S1
      · rename_i ds q
        split at q
        · rename_i h
          cases q
          have e : ((n.toNat : Nat) : Int) = n := by omega
          refine ⟨n, dvInt (der_ok P1.rel R1 q1), RgOk.of_le (Int.le_refl _) h.2 (by decide) h.1, fun p n0 => ?_⟩
          refine out_lst (K := X.K) hid_sub (Q := fun v H' => Q v H') (out_rv P1.rel (rr := .lst (rngs 0 1 n.toNat)) fun v H' P' R' => S1 v H' (P1.trans P') (rv_from P1 R')) n0 ?_
          have := dps_rng (K := X.K) (G := hid H1 (Hd Z σ ρ1)) n.toNat
          rw [e] at this
          exact this
        · cases q
      · exact S1.elim
    | none | bool | str | list | tuple | dict => exact S1.elim
end
/-! ### defs of the text -/
structure DefS (P : Program) (w : World) (K : PySem.W.Frag) (mg : Str → Option Value) (base : Heap) (k : Nat) (x : Str) (st : Stmt) (ps : List Str) (F : Fn) : Prop where
  ex : ∃ f fd, FnOk P w K mg base (L2.CX P w) k f fd ps (spOf K mg ps.length F) ∧ mg x = some (.ref f) ∧ Fun K x x st f fd
theorem DefS.ok {P : Program} {w : World} {K : PySem.W.Frag} {mg : Str → Option Value} {base : Heap} {k : Nat} {x : Str} {st : Stmt} {ps : List Str} {F : Fn} (d : DefS P w K mg base k x st ps F)
    (h : ∀ (kV doc pm : Value) (an : Option Addr) (cdv ct : Value) (us : List Value), us.length = ps.length → bindArgs (PySem.W.fnOf x x (defArgs st) (defBody st) (defScope st) .none kV doc pm an cdv ct) ⟨us, []⟩ = pure (ps.zip us)) : DefOk P w K mg base k x ps F := by
  obtain ⟨f, fd, g, hm, F⟩ := d.ex
  exact ⟨f, fd, g, hm, F.kp, F.binds h⟩
section
variable {X : Cx} {W : WX} {pos : Pos}
/-- the values of the keywords -/
abbrev EK (X : Cx) (W : WX) (kws : List Keyword) (f : M (List RV)) : Prop := PK X kws (rdG X.K X.mg W (tAs X.K) f)
theorem pk_imp {kws : List Keyword} {t t' : TA} (h : PK X kws t) (i : ∀ σ H Q, t' σ H Q → t σ H Q) : PK X kws t' := ⟨fun p pins s σ H Q I w => h.run p pins s σ H Q I (i σ H Q w)⟩
theorem ek_nil : EK X W [] aNil := pk_imp pk_nil fun σ H Q ⟨Z, ρ, E, S⟩ => S [] H (.refl E) .nil
theorem ek_cons {e : Expr} {kws : List Keyword} {f : M RV} {r : M (List RV)} {nm : Option Str} {kpos : Pos} (h : EV X W e f) (hr : EK X W kws r) : EK X W (⟨nm, e, kpos⟩ :: kws) (aCons f r) :=
  pk_imp (pk_cons h hr) fun σ H Q ⟨Z, ρ, E, S⟩ => by
    refine rd_of E (sat_bnd S) (fun a ρ1 v1 H1 P1 R1 S1 => ?_) fun x ρ1 cls d H1 P1 X1 e1 => e1 cls d H1 P1 X1
    obtain ⟨a', ea, S1⟩ := sat_lift S1
    obtain ⟨R1, pn⟩ := pin_ok R1 ea
    refine rd_of P1.rel (sat_bnd S1) (fun as ρ2 vs H2 P2 R2 S2 => ?_) fun x ρ1 cls d H2 P2 X1 e1 => e1 cls d H2 (P1.trans P2) X1
    exact S2 (v1 :: vs) H2 (P1.trans P2) (.cons ⟨pin_keep pn R1 P2 _, pn⟩ R2)
/-- how a call with keywords orders its values: perm tells, for each parameter, which of the values it is -/
def permL {α : Type} (perm : List Nat) (xs : List α) : List α := perm.filterMap fun i => xs[i]?
def eCallK (F : Fn) (perm : List Nat) (as ks : M (List RV)) : M RV := bnd as fun rs => bnd ks fun zs => bnd (escs (rs ++ zs)) fun ds ρ => match F ((permL perm ds).map .val) with
  | .ok r _ => .ok r.rv ρ
  | .exc x _ => .exc x ρ
  | .bad => .bad
theorem perm_rel {α β : Type} {R : α → β → Prop} {perm : List Nat} {xs : List α} {ys : List β} (h : Paired R xs ys) : Paired R (permL perm xs) (permL perm ys) := by
  unfold permL
  induction perm with
  | nil => exact .nil
  | cons i perm ih =>
    rw [List.filterMap_cons, List.filterMap_cons]
    have : (∃ x y, xs[i]? = some x ∧ ys[i]? = some y ∧ R x y) ∨ (xs[i]? = none ∧ ys[i]? = none) := by
      clear ih
      induction h generalizing i with
      | nil => right; simp
      | cons h t ih =>
        cases i with
        | zero => exact .inl ⟨_, _, rfl, rfl, h⟩
        | succ i => simpa using ih i
    rcases this with ⟨x, y, e1, e2, r⟩ | ⟨e1, e2⟩
    · rw [e1, e2]; exact .cons r ih
    · rw [e1, e2]; exact ih
theorem vals_paired : ∀ {vs : List V} {us : List Value}, Vals vs us → Paired RelV vs us
  | _, _, .nil => .nil
  | _, _, .cons r t => .cons r (vals_paired t)
theorem paired_vals : ∀ {vs : List V} {us : List Value}, Paired RelV vs us → Vals vs us
  | _, _, .nil => .nil
  | _, _, .cons r t => .cons r (paired_vals t)
theorem vals_append {vs zs : List V} {us ws : List Value} (a : Vals vs us) (b : Vals zs ws) : Vals (vs ++ zs) (us ++ ws) := Vals.append a b
theorem run_key {k : Nat} {f : Addr} {fd : FuncData} {ps ks : List Str} {sp : Sp} {E : L2.St → XK} {pins : List (Addr × Obj)} {σ : L2.St} {H : Hp} {s : Shared} {Q : VK} {us ws : List Value} {vs zs : List V} {perm : List Nat} (F : FnOk X.prog X.w X.K X.mg X.base (L2.CX X.prog X.w) k f fd ps sp) (hr : Room k X.A)
    (hb : ∀ (s : Shared) (us ws : List Value), X.K.In s.heap → us.length = vs.length → ws.length = zs.length → BindsTo s fd ⟨us, ks.zip ws⟩ (ps.zip (permL perm (us ++ ws)))) (hx : PassesAt (L2.CX X.prog X.w) X σ (E σ))
    (I : Inv X pins σ H s) (r : Vals vs us) (rz : Vals zs ws) (h : sp (permL perm (vs ++ zs)) H Q (E σ)) : wpAny (model X.prog X.w) X.A (call (.ref f) us (ks.zip ws)) (EP X pins σ Q) X.xe s := by
  have r2 : Vals (permL perm (vs ++ zs)) (permL perm (us ++ ws)) := paired_vals (perm_rel (vals_paired (vals_append r rz)))
  refine wpAny_call (codeAny_mono (F.run X.A X.stack s H ⟨us, ks.zip ws⟩ (permL perm (us ++ ws)) (permL perm (vs ++ zs)) Q (E σ) hr I.env0 (hb s us ws I.kIn r.length.symm rz.length.symm) r2 h) fun r s' hq => ?_)
  cases r with
  | error e => exact hx pins H s e s' I hq
  | ok fl =>
    cases fl with
    | ret u => exact I.after hq
    | next => exact False.elim hq
    | brk => exact False.elim hq
    | cont => exact False.elim hq
theorem rd_callK {F : Fn} {ps : List Str} {perm : List Nat} {as ks : M (List RV)} {na nk : Nat} {σ : L2.St} {H : Hp} {Q : VK} (hna : ∀ ρ rs ρ', as ρ = .ok rs ρ' → rs.length = na) (hnk : ∀ ρ rs ρ', ks ρ = .ok rs ρ' → rs.length = nk) (hp : ∀ {α : Type} (xs : List α), xs.length = na + nk → (permL perm xs).length = ps.length)
    (w : rd X.K X.mg W (eCallK F perm as ks) σ H Q) : rdG X.K X.mg W (tAs X.K) as σ H fun vs H1 => rdG X.K X.mg W (tAs X.K) ks σ H1 fun zs H2 => vs.length = na ∧ zs.length = nk ∧ spOf X.K X.mg ps.length F (permL perm (vs ++ zs)) H2 Q (WE W σ) := by
  obtain ⟨Z, ρ, E, S⟩ := w
  have S1 := sat_bnd S
  cases qa : as ρ with
  | bad => rw [qa] at S1; exact S1.elim
  | exc x' ρ' => rw [qa] at S1; refine ⟨Z, ρ, E, ?_⟩; rw [qa]; exact S1
  | ok rs ρ1 =>
    rw [qa] at S1
    refine ⟨Z, ρ, E, ?_⟩
    rw [qa]
    intro vs H1 P1 R1
    have S2 := sat_bnd S1
    cases qk : ks ρ1 with
    | bad => rw [qk] at S2; exact S2.elim
    | exc x' ρ' =>
      rw [qk] at S2
      refine ⟨Z, ρ1, P1.rel, ?_⟩
      rw [qk]
      exact fun cls d H2 P2 X2 => S2 cls d H2 (P1.trans P2) X2
    | ok zs ρ2 =>
      rw [qk] at S2
      refine ⟨Z, ρ1, P1.rel, ?_⟩
      rw [qk]
      intro ws H2 P2 R2
      have R := rvs_keep R1 P2
      have RR : RVs X.K Z σ H2 ρ2 (vs ++ ws) (rs ++ zs) := by
        clear S2 S1 S qa qk
        induction R with
        | nil => exact R2
        | cons h t ih => exact .cons h (ih (by
            cases R1 with
            | cons _ t' => exact t'))
      have l1 : vs.length = na := (rvs_len R1).trans (hna _ _ _ qa)
      have l2 : ws.length = nk := (rvs_len R2).trans (hnk _ _ _ qk)
      refine ⟨l1, l2, ?_⟩
      obtain ⟨ds, ρ3, P3, h3, S3⟩ := escs_ok P2.rel RR S2
      have h4 : DpAll X.K (hid H2 (Hd Z σ ρ3)) (permL perm (vs ++ ws)) (permL perm ds) := paired_dps (perm_rel (dps_paired h3))
      exact call_vals ((P1.trans P2).trans P3) (hp _ (by rw [List.length_append, l1, l2])) h4 S3
theorem ev_callK0 {k j : Nat} {ps ks : List Str} {x : Str} {st : Stmt} {F : Fn} {kws : List Keyword} {perm : List Nat} {fk : M (List RV)} {nk : Nat} {p : Pos} (G : DefS X.prog X.w X.K X.mg X.base k x st ps F) (hr : Room j X.A) (hj : k ≤ j) (hg : Gl X x) (tk : Takes X W)
    (hk : EK X W kws fk) (hnk : ∀ ρ rs ρ', fk ρ = .ok rs ρ' → rs.length = nk) (hp : ∀ {α : Type} (xs : List α), xs.length = 0 + nk → (permL perm xs).length = ps.length)
    (hb : ∀ (kV doc pm : Value) (an : Option Addr) (cdv ct : Value) (ws : List Value), ws.length = nk → bindArgs (PySem.W.fnOf x x (defArgs st) (defBody st) (defScope st) .none kV doc pm an cdv ct) ⟨[], ks.zip ws⟩ = pure (ps.zip (permL perm ws)))
    (hall : (backToKw pos (keywordEach kws X.env)).all (·.1.isSome) = true := by rfl) (hks : (backToKw pos (keywordEach kws X.env)).filterMap (·.1) = ks := by rfl) (hdb : (x == ("__debug__" : Str)) = false := by decide)
    (hpl : ((backTo pos (starEach [] X.env)).any (·.1) || (backToKw pos (keywordEach kws X.env)).any (·.1.isNone)) = false := by rfl) : EV X W (.Call (.Name x p) [] kws pos) (eCallK F perm aNil fk) := by
  obtain ⟨f, fd, g, hm, Fu⟩ := G.ex
  refine ⟨fun pins s σ H Q I w => ?_⟩
  have w := rd_callK (X := X) (ps := ps) (fun ρ rs ρ' e => by cases e; rfl) hnk hp w
  obtain ⟨Z, ρ, E, S⟩ := w
  have S := S [] H (.refl E) .nil
  refine wpAny_Call_Name_kw (ld_glob I hg hm ?_ hdb)
  refine PySem.W.callWith_KW0 (h₀ := X.base) I.ok.mod.kin Fu.kp hall (thn (hk.run pos pins s σ H _ I S) fun ws s2 ⟨zs, H2, I2, rz, _, l2, q2⟩ => ⟨I2.kIn, ?_⟩) hpl
  rw [hks]
  obtain ⟨oc, od, kV, doc, pm, an, cdv, ct, osl, rfl, lk, hcd⟩ := Fu.ex
  refine run_key (vs := []) (us := []) (perm := perm) g (hr.mono hj) (fun s us ws hK h1 h2 => ?_) (passAt tk σ) I2 .nil rz q2
  cases us with
  | cons => cases h1
  | nil => exact .of_eq (hb kV doc pm an cdv ct ws (h2.trans l2))
theorem ev_callK {k j : Nat} {ps ks : List Str} {x : Str} {st : Stmt} {F : Fn} {e : Expr} {es : List Expr} {kws : List Keyword} {perm : List Nat} {fa fk : M (List RV)} {na nk : Nat} {p : Pos} (G : DefS X.prog X.w X.K X.mg X.base k x st ps F) (hr : Room j X.A) (hj : k ≤ j) (hg : Gl X x) (tk : Takes X W)
    (ha : EA X W (e :: es) fa) (hk : EK X W kws fk) (hna : ∀ ρ rs ρ', fa ρ = .ok rs ρ' → rs.length = na) (hnk : ∀ ρ rs ρ', fk ρ = .ok rs ρ' → rs.length = nk) (hp : ∀ {α : Type} (xs : List α), xs.length = na + nk → (permL perm xs).length = ps.length)
    (hb : ∀ (kV doc pm : Value) (an : Option Addr) (cdv ct : Value) (us ws : List Value), us.length = na → ws.length = nk → bindArgs (PySem.W.fnOf x x (defArgs st) (defBody st) (defScope st) .none kV doc pm an cdv ct) ⟨us, ks.zip ws⟩ = pure (ps.zip (permL perm (us ++ ws))))
    (hall : (backToKw pos (keywordEach kws X.env)).all (·.1.isSome) = true := by rfl) (hks : (backToKw pos (keywordEach kws X.env)).filterMap (·.1) = ks := by rfl) (hdb : (x == ("__debug__" : Str)) = false := by decide)
    (he : starEach (e :: es) X.env = (false, eval e X.env) :: starEach es X.env := by rfl)
    (hpl : ((backTo pos (starEach (e :: es) X.env)).any (·.1) || (backToKw pos (keywordEach kws X.env)).any (·.1.isNone)) = false := by rfl) : EV X W (.Call (.Name x p) (e :: es) kws pos) (eCallK F perm fa fk) := by
  obtain ⟨f, fd, g, hm, Fu⟩ := G.ex
  refine ⟨fun pins s σ H Q I w => ?_⟩
  have w := rd_callK (X := X) (ps := ps) hna hnk hp w
  refine wpAny_Call_Name_kw (ld_glob I hg hm ?_ hdb)
  refine PySem.W.callWith_KW (h₀ := X.base) I.ok.mod.kin Fu.kp hall (thn (ha.run pos pins s σ H _ I w) fun us s1 ⟨vs, H1, I1, r, q⟩ => ?_) hpl he
  refine thn (hk.run pos pins s1 σ H1 _ I1 q) fun ws s2 ⟨zs, H2, I2, rz, l1, l2, q2⟩ => ⟨I2.kIn, ?_⟩
  rw [hks]
  obtain ⟨oc, od, kV, doc, pm, an, cdv, ct, osl, rfl, lk, hcd⟩ := Fu.ex
  refine run_key (perm := perm) g (hr.mono hj) (fun s us ws hK h1 h2 => ?_) (passAt tk σ) I2 r rz q2
  exact .of_eq (hb kV doc pm an cdv ct us ws (h1.trans l1) (h2.trans l2))
end
end Ev

set_option Elab.async false
set_option linter.all false
set_option maxRecDepth 100000
set_option maxHeartbeats 4000000
set_option autoImplicit false
/-! short words for the terms -/
namespace Ev
open PySem L2 PySem.Spec PyProof.Rows
section
variable {X : Cx} {W : WX} {pos : Pos}
theorem pty (t : String) {x : Str} (hg : Gl X x) (hm : X.mg x = none) (hv : bootBuiltins x = some (.type t)) (hn : x ≠ "__name__" := by decide) (hd : (x == ("__debug__" : Str)) = false := by decide) : PE X (.Name x pos) (tC (.ty t)) := pe_bltn hg hm hv rfl hn hd
/-- a class of the text by its name -/
theorem al_nil : ∀ (ρ : Rho) (rs : List RV) (ρ' : Rho), aNil ρ = .ok rs ρ' → rs.length = 0 := fun ρ rs ρ' e => by cases e; rfl
theorem al_cons {f : M RV} {r : M (List RV)} {n : Nat} (h : ∀ (ρ : Rho) (rs : List RV) (ρ' : Rho), r ρ = .ok rs ρ' → rs.length = n) : ∀ (ρ : Rho) (rs : List RV) (ρ' : Rho), aCons f r ρ = .ok rs ρ' → rs.length = n + 1 := fun ρ rs ρ' e => by
  unfold aCons bnd at e
  cases q : f ρ with
  | bad => rw [q] at e; cases e
  | exc x ρ1 => rw [q] at e; cases e
  | ok a ρ1 =>
    rw [q] at e
    cases qa : pin a with
    | none => simp only [qa, lift, bnd] at e; cases e
    | some a' =>
      simp only [qa, lift, bnd] at e
      cases q2 : r ρ1 with
      | bad => rw [q2] at e; cases e
      | exc x ρ2 => rw [q2] at e; cases e
      | ok as ρ2 =>
        rw [q2] at e
        cases e
        rw [List.length_cons, h _ _ _ q2]
theorem hu64 {k : Nat} (hr : Room k X.A) : X.A.units + 64 < cLine := by have := hr.un; omega
theorem hu65 {k : Nat} (hr : Room k X.A) : X.A.units + 65 < cLine := by have := hr.un; omega
/-- _law_take(urn, ..): the urn is the slot's own -/
theorem ev_callU' {k j : Nat} {ps : List Str} {x : Str} {F : Fn} {pp : Nat} {e : Expr} {es : List Expr} {as : M (List RV)} {p : Pos} (G : DefOk X.prog X.w X.K X.mg X.base k x ps F) (hr : Room j X.A) (hj : k ≤ j) (hg : Gl X x) (tk : Takes X W)
    (ha : EA X W (e :: es) as) (hn : ∀ (ρ : Rho) (rs : List RV) (ρ' : Rho), as ρ = .ok rs ρ' → rs.length = ps.length) (hdb : (x == ("__debug__" : Str)) = false := by decide) (hs : starEach (e :: es) X.env = (false, eval e X.env) :: starEach es X.env := by rfl) (hpl : (backTo pos (starEach es X.env)).any (·.1) = false := by rfl) :
    EV X W (.Call (.Name x p) (e :: es) [] pos) (eCallU F pp as) := ev_callU G hr hj hg tk ha hdb hs hpl hn
end
section
variable {P : Program} {w : World} {K : PySem.W.Frag} {mg : Str → Option Value} {base : Heap}
/-- nothing is promised -/
theorem fn_bad {x qual : Str} {st : Stmt} {f : Addr} {fd : FuncData} {N ps : List Str} {k n : Nat} (F : Fun K x qual st f fd) (sc : FnScope N ps (defScope st)) (hn : ps.length = n) : FnOk P w K mg base (L2.CX P w) (k + 1) f fd ps (spOf K mg n (fun _ => .bad)) := by
  subst hn
  exact F.okX sc (fun vs H Q E h => h.1) fun cdv A outer s H vs Q E hr ⟨_, _, _, _, _, z⟩ => z.elim
end
end Ev

set_option Elab.async false
set_option linter.all false
set_option maxRecDepth 100000
set_option maxHeartbeats 4000000
set_option autoImplicit false
/-! a, b = x, y of captured names too -/
namespace Ev
open PySem L2 PySem.Spec PyProof.Rows
section
variable {X : Cx} {W : WX} {pos : Pos}
theorem par_read {i j : Nat} {f g : M RV} {D : Ends} {σ : L2.St} {H : Hp} (hij : i ≠ j) (w : rdS X.K X.mg W (sPar i j f g) D σ H) : rd X.K X.mg W f σ H fun v H1 => rd X.K X.mg W g σ H1 fun u H2 => ∀ H3, L2.Same H2 H3 → D.nx ((σ.set i (some v)).set j (some u)) H3 := by
  obtain ⟨Z, ρ, E, S⟩ := w
  refine rd_of E (sat_bnd S) (fun a ρ1 v1 H1 P1 R1 S1 => ?_) fun x ρ1 cls d H1 P1 X1 e1 => xc_ev (.refl E) e1 P1 X1
  have dat : (bnd (esc a) (fun d => bnd g fun b => bnd (st j b) fun _ => bnd (stV i d) fun _ => Ev.ret .nx) ρ1).sat (flP X.K Z σ H ρ D) (xcP X.K X.mg Z σ H ρ W) →
      rdG X.K X.mg W (tV X.K) g σ H1 fun w H2 => ∀ H3, L2.Same H2 H3 → D.nx ((σ.set i (some v1)).set j (some w)) H3 := fun S1 => by
    obtain ⟨d, ρ2, q, S2⟩ := sat_esc S1
    obtain ⟨P2, h2⟩ := esc_ok P1.rel R1 q
    refine rd_of P2.rel (sat_bnd S2) (fun b ρ3 v3 H3 P3 R3 S3 => ?_) fun x ρ1 cls d H2 P2' X1 e1 => xc_ev (P1.trans P2).sp e1 P2' X1
    obtain ⟨ρ4, q4, S4⟩ := sat_st S3
    have P4 := st_ok P3 R3 q4
    have h4 := dp_mono P4.sub h2
    intro H4 sm
    unfold bnd at S4
    simp only [stV] at S4
    cases hs : ρ4[i]? with
    | none => simp only [hs] at S4; exact S4.elim
    | some s =>
      simp only [hs] at S4
      by_cases hf : free1 s = true
      · simp only [hf, if_true] at S4
        have P5 := SPost.store P4.rel hs hf h4
        rw [List.set_comm _ _ hij]
        have P6 := ((P1.trans P2).sp.trans P4).trans P5
        exact S4 _ H4 (P6.trans (EPost.same P6.rel sm).sp)
      · simp only [hf, if_false, Bool.false_eq_true] at S4
        exact S4.elim
  cases a with
  | val d => exact dat S1
  | bor k => exact dat S1
  | tmp c =>
    obtain ⟨A, rfl, n, nz, no, E', hc⟩ := R1
    refine rd_of E' (sat_bnd S1) (fun b ρ3 v3 H3 P3 R3 S3 => ?_) fun x ρ1 cls d H2 P2' X1 e1 => xc_ev P1.sp e1 (P2'.unhide no) X1
    obtain ⟨ρ4, q4, S4⟩ := sat_st S3
    have P4 := st_ok P3 R3 q4
    obtain ⟨o, ho⟩ := cell_there hc
    have no4 : ¬ Own (σ.set j (some v3)) ρ4 A := fun z => (P4.own A z).elim no fun z => by rw [ho] at z; cases z
    have hc4 : CellAt X.K (hid H3 fun b => Hd Z (σ.set j (some v3)) ρ4 b ∨ b = A) H3 A c := by
      refine cell_mono (fun b o q => ?_) (fun o q => P4.fr A o q fun z => no z.own) hc
      obtain ⟨q1, q2⟩ := hid_iff.mp q
      obtain ⟨q3, q5⟩ := hid_iff.mp (P4.sub b o (hid_iff.mpr ⟨q1, fun z => q2 (by rcases z with (z | z) | z; exact .inl (.inl z); exact .inr z; exact .inl (.inr z))⟩))
      exact hid_iff.mpr ⟨q3, fun z => q5 (by rcases z with (z | z) | z; exact .inl (.inl z); exact .inr z; exact .inl (.inr z))⟩
    intro H4 sm
    unfold bnd at S4
    simp only [stT] at S4
    cases hs : ρ4[i]? with
    | none => simp only [hs] at S4; exact S4.elim
    | some s =>
      simp only [hs] at S4
      by_cases hf : free1 s = true
      · simp only [hf, if_true] at S4
        have P5 := SPost.storeH (P1.sp.trans (P4.unhide no4)) hs hf nz no4 P4.rel hc4 n
        rw [List.set_comm _ _ hij]
        exact S4 _ H4 (P5.trans (EPost.same P5.rel sm).sp)
      · simp only [hf, if_false, Bool.false_eq_true] at S4
        exact S4.elim
theorem es_par2 {i j : Nat} {x y : Str} {a b : Expr} {f g : M RV} {px py pt : Pos} {kt k2 pt2} (hc : X.calm = true) (hij : i ≠ j) (hx : PG X (.Name x px) (gName i)) (hy : PG X (.Name y py) (gName j)) (ha : EV X W a f) (hb : EV X W b g)
    (hs : swapsWithSole [.Tuple [.Name x px, .Name y py] kt pt] (.Tuple [a, b] k2 pt2) pos.line X.env = pure false := by rfl) (hw : swappedStores [.Tuple [.Name x px, .Name y py] kt pt] (.Tuple [a, b] k2 pt2) X.env = pure none := by rfl)
    (h1 : (assignEach [.Tuple [.Name x px, .Name y py] kt pt] X.env).map (·.2) = [assign (.Tuple [.Name x px, .Name y py] kt pt) X.env] := by rfl)
    (hs1 : starEach [a, b] X.env = (false, eval a X.env) :: starEach [b] X.env := by rfl) (hs2 : starEach [b] X.env = (false, eval b X.env) :: starEach [] X.env := by rfl) 
    (he1 : (assignEach [.Name x px, .Name y py] X.env).map (·.2) = assign (.Name x px) X.env :: (assignEach [.Name y py] X.env).map (·.2) := by rfl) (he2 : (assignEach [.Name y py] X.env).map (·.2) = assign (.Name y py) X.env :: (assignEach [] X.env).map (·.2) := by rfl)
    (hn : (assignEach [.Name x px, .Name y py] X.env).length = 2 := by rfl) (hst : (assignEach [.Name x px, .Name y py] X.env).findIdx? (·.1) = none := by rfl) :
    ES X W (.Assign [.Tuple [.Name x px, .Name y py] kt pt] (.Tuple [a, b] k2 pt2) pos) (sPar i j f g) := by
  refine ps_imp (ps_asg (pe_tup (pa_cons ha (pa_cons hb pa_nil hs2) hs1)) (pg_tup hc (pgs_cons hx (pgs_cons hy pgs_nil he2) he1) hn hst) hs hw h1) fun D σ H w => ?_
  have w := par_read (X := X) hij w
  obtain ⟨Z, ρ, E, S⟩ := w
  refine ⟨Z, ρ, E, sat_imp S (fun a ρ1 S1 v H1 P1 R1 => ?_) fun x ρ1 S1 => S1⟩
  obtain ⟨Z2, ρ2, E2, S2⟩ := S1 v H1 P1 R1
  refine ⟨Z2, ρ2, E2, sat_imp S2 (fun b ρ3 S3 u H2 P2 R2 => ?_) fun x ρ1 S1 => S1⟩
  have S3 := S3 u H2 P2 R2
  refine ⟨by show 2 ≤ sizeLine; decide, fun T n => ⟨T, _, rfl, SqT.of upd_same, rfl, _, _, rfl, _, _, rfl, rfl, S3 _ (same_upd n)⟩⟩
end
end Ev

set_option Elab.async false
set_option linter.all false
set_option maxRecDepth 100000
set_option maxHeartbeats 4000000
set_option autoImplicit false
/-! try: several clauses, with names or without; clauses that are never come to -/
namespace Ev
open PySem L2 PySem.Spec PyProof.Rows
/-- a clause: its class, the slot of its name, its suite -/
abbrev Cl := Value × Option Nat × (Addr → Value → Option Addr → TS)
def back (o : Option Nat) (σ : L2.St) : L2.St := match o with
  | none => σ
  | some i => σ.set i none
def come (o : Option Nat) (a : Addr) (σ : L2.St) : L2.St := match o with
  | none => σ
  | some i => σ.set i (some (.ref a))
def endsOf (o : Option Nat) (D : Ends) : Ends := { nx := fun σ H => D.nx (back o σ) H, rt := D.rt, bk := fun σ H => D.bk (back o σ) H, ct := fun σ H => D.ct (back o σ) H }
/-- what the clauses ask of an exception; all: they are all there are -/
def wCl (K : PySem.W.Frag) (Wout : WX) (D : Ends) (all : Bool) : List Cl → WX
  | [] => fun cls d σ H => all = true ∧ Wout cls d σ H
  | (c, o, ts) :: r => fun cls d σ H => ∃ b, PySem.W.exmOne K cls c = some b ∧ (b = true → ∀ a, H a = none → ts a cls d (endsOf o D) (come o a σ) H) ∧ (b = false → wCl K Wout D all r cls d σ H)
inductive ClsOk (X : Cx) : List ExceptHandler → List Cl → Bool → Prop
  | nil : ClsOk X [] [] true
  | rest {hs : List ExceptHandler} : ClsOk X hs [] false
  | cons {x : Str} {c : Value} {ts : Addr → Value → Option Addr → TS} {b₀ : Stmt} {suite : List Stmt} {np pos' : Pos} {hs : List ExceptHandler} {l : List Cl} {all : Bool} (hc : Names X x c)
      (hsu : ∀ (a : Addr) (oe : Obj) (cls : Value) (d : Option Addr) (pn : List (Addr × Obj)), Zc cls d oe → (∃ vs, oe.data = .fields vs) → PSs (X.suite a ((a, oe) :: pn)) (b₀ :: suite) (ts a cls d)) (r : ClsOk X hs l all) :
      ClsOk X (.ExceptHandler (some (.Name x np)) none (b₀ :: suite) pos' :: hs) ((c, none, ts) :: l) all
  | name {x n : Str} {i : Nat} {c : Value} {ts : Addr → Value → Option Addr → TS} {b₀ : Stmt} {suite : List Stmt} {np pos' : Pos} {hs : List ExceptHandler} {l : List Cl} {all : Bool} (hc : Names X x c) (hi : X.N[i]? = some n) (hln : X.env.kindOf n = some .local)
      (hsu : ∀ (a : Addr) (oe : Obj) (cls : Value) (d : Option Addr) (pn : List (Addr × Obj)), Zc cls d oe → (∃ vs, oe.data = .fields vs) → PSs (X.suite a ((a, oe) :: pn)) (b₀ :: suite) (ts a cls d)) (r : ClsOk X hs l all) :
      ClsOk X (.ExceptHandler (some (.Name x np)) (some n) (b₀ :: suite) pos' :: hs) ((c, some i, ts) :: l) all
section
variable {X : Cx} {body : List Stmt} {h₀ : ExceptHandler} {hds : List ExceptHandler} {l : List Cl} {all : Bool} {pos : Pos} {tb : WX → TS} {Wout : WX}
theorem ps_tryF (hs : X.stack = X.env :: X.outer) (hf : X.env.frame = some X.env.locals) (hN : X.N.Nodup) (tk : Takes X Wout)
    (hb : ∀ (W : WX) (pn : List (Addr × Obj)) (xe : Value → Shared → Prop), Takes (X.tr pn xe) W → PassesOwn (model X.prog X.w) X.A X.env xe → PSs (X.tr pn xe) body (tb W))
    (hh : ClsOk X (h₀ :: hds) l all) : PS X (.Try body (h₀ :: hds) [] [] pos) (fun D σ H => tb (wCl X.K Wout D all l) D σ H) := by
  refine ⟨fun pins s σ H D I h => ?_⟩
  have ok := I.ok
  have hfr : X.A.frames = some (X.env :: X.outer) := by rw [ok.frames, hs]
  refine wpAny_Try_except ?_
  refine wpAny_mono ((hb (wCl X.K Wout D all l) (X.pn ++ pins) (fun e s₁ => wpAny (model X.prog X.w) X.A (noteFrame e X.env) (fun _ s₂ => wpAny (model X.prog X.w) X.A (setFlight e none) (fun _ s₃ =>
    wpAny (model X.prog X.w) X.A (handleBy e X.env (h₀ :: hds)) (SP X pins D) X.xe s₃) X.xe s₂) X.xe s₁) (fun u s' xx => ?_) PassesOwn.looking).run [] s σ H D (I.toTry _) h) (fun f s1 hsp => ?_) (fun e s1 he => he)
  · obtain ⟨a, B, sI, pins', σ', H', cls, d, rfl, J', nb, up, sky, na, os, ag, w⟩ := xx
    have J : Inv X pins σ' H' sI := J'.ofTry ok
    have sky' : Sky B (X.env :: X.outer) a (Zc cls d) X.env.locals s'.heap := by rw [← hs]; exact sky
    show wpAny (model X.prog X.w) X.A (noteFrame (.ref a) X.env) _ _ _
    refine Sky.land Zc.steady hfr hf sky' fun h3 fl3 up3 => ?_
    have J3 : Inv X pins σ' H' { s' with heap := h3 } := J.landed nb fl3.1 (up.trans up3) os ag
    obtain ⟨oe3, vs3, he3, hz3, hd3⟩ := fl3.there
    have notFr : ∀ {h : Heap} {o : Obj} {vs : Array Value}, h.FunFrames B (X.env :: X.outer) → h.get? a = some o → o.data = .fields vs → a ∉ frs (X.env :: X.outer) := fun {h o vs} ff e dd hm => by
      obtain ⟨_, o', e', hnf⟩ := ff.mem hm
      rw [e] at e'; cases e'
      exact hnf _ dd
    have nfr := notFr fl3.2.2.1 he3 hd3
    have nL : a ≠ X.env.locals := fun z => nfr (List.mem_filterMap.mpr ⟨X.env, List.mem_cons_self, by rw [hf, z]⟩)
    have nF : a ∉ X.fs := fun hm => by
      obtain ⟨e, he, q⟩ := List.mem_filterMap.mp hm
      exact nfr (List.mem_filterMap.mpr ⟨e, List.mem_cons_of_mem _ he, q⟩)
    have S3 := J3.suite he3 hd3 na nL nF
    have LT : PySem.W.Looks (model X.prog X.w) h3 (typeOf (.ref a)) cls := fun A Q E s k q => wpAny_typeOf_ref (k _ _ he3) (by rw [hz3.1]; exact q)
    have test : ∀ {x : Str} {c : Value} {np : Pos} {Q : Value → Shared → Prop} {E : Value → Shared → Prop}, Names X x c → Q c { s' with heap := h3 } → wpAny (model X.prog X.w) (X.A.mark (some (.ref a))) (eval (.Name x np) X.env) Q E { s' with heap := h3 } := fun {x c np Q E} hc q => by
      obtain ⟨hg, hdbg, hm | ⟨hm, hv, hnn⟩⟩ := hc
      · exact ld_glob (X := X.suite a ((a, oe3) :: (X.pn ++ pins))) S3 hg hm q hdbg
      · exact ld_blt (X := X.suite a ((a, oe3) :: (X.pn ++ pins))) S3 hg hm hv q hnn hdbg
    have go : ∀ {hds' : List ExceptHandler} {l' : List Cl} {b' : Bool}, ClsOk X hds' l' b' → wCl X.K Wout D b' l' cls d σ' H' →
        wpAny (model X.prog X.w) X.A (handleBy (.ref a) X.env hds') (SP X pins D) X.xe { s' with heap := h3 } := by
      intro hds' l' b' hk
      induction hk with
      | rest => intro w; exact absurd w.1 (by decide)
      | nil =>
        intro w
        have w := w.2
        refine wpAny_handleBy_nil ?_
        obtain ⟨k1, k2, k3, oe, vs, T, oT, ts', he, hz, hd, h1, hr⟩ := id fl3
        unfold PySem.passOn
        refine wpAny_bind (wpAny_field he hd h1 ?_)
        rw [if_neg (show ¬ ((Value.ref T == Value.none) = true) from by simp)]
        have fin : wpAny (model X.prog X.w) X.A (setFlight (.ref a) X.env.frame) (fun _ s4 => wpAny (model X.prog X.w) X.A (throw (.ref a) : Sem Flow) (SP X pins D) X.xe s4) X.xe { s' with heap := h3 } := by
          rw [hf]
          refine HandSPX.setFlight_upZ fl3 fun h4 hh4 up4 => wpAny_throw (tk _ _ ?_)
          exact ⟨a, B, sI, pins, σ', H', cls, d, rfl, J, nb, (up.trans up3).trans up4, .inr (.inr (by rw [hs]; exact hh4)), na, os, ag, w⟩
        first
          | exact wpAny_bind (wpAny_pure (wpAny_bind fin))
          | exact wpAny_bind fin
      | cons hc hsu r ih =>
        rename_i x c ts b₀ suite np pos' hs2 l2 all2
        intro w
        obtain ⟨b, hb1, hyes, hno⟩ := w
        have LM := PySem.W.exm_one (M := model X.prog X.w) (J3.kIn) LT hb1
        refine wpAny_handleBy_cons (codeAny_handlers_test (test hc (LM.here ?_))) (by intro q; cases q)
        cases b with
        | true =>
          refine codeAny_handlers_suite ?_
          refine HandSPX.lands_againZ fl3 fun h4 fl4 up4 => ?_
          have J4 : Inv X pins σ' H' { s' with heap := h4 } := J.landed nb fl4.1 ((up.trans up3).trans up4) os ag
          obtain ⟨oe4, vs4, he4, hz4, hd4⟩ := fl4.there
          have S4 := J4.suite he4 hd4 na nL nF
          refine wpAny_mono ((hsu a oe4 cls d (X.pn ++ pins) hz4 ⟨_, hd4⟩).run [] _ _ H' _ S4 (hyes rfl a na)) (fun f s6 hsp => ?_) (fun _ _ z => False.elim z)
          cases f with
          | next => obtain ⟨σ6, H6, S6, q6⟩ := hsp; exact ⟨_, _, S6.unsuite ok, q6⟩
          | brk => obtain ⟨σ6, H6, S6, q6⟩ := hsp; exact ⟨_, _, S6.unsuite ok, q6⟩
          | cont => obtain ⟨σ6, H6, S6, q6⟩ := hsp; exact ⟨_, _, S6.unsuite ok, q6⟩
          | ret u => obtain ⟨v6, σ6, H6, S6, r6, q6⟩ := hsp; exact ⟨_, _, _, S6.unsuite ok, r6, q6⟩
        | false =>
          show wpAny _ X.A (handleBy (.ref a) X.env hs2) _ _ _
          exact ih (hno rfl)
      | name hc hi hln hsu r ih =>
        rename_i x n i c ts b₀ suite np pos' hs2 l2 all2
        intro w
        obtain ⟨b, hb1, hyes, hno⟩ := w
        have LM := PySem.W.exm_one (M := model X.prog X.w) (J3.kIn) LT hb1
        refine wpAny_handleBy_cons (codeAny_handlers_test (test hc (LM.here ?_))) (by intro q; cases q)
        cases b with
        | true =>
          refine codeAny_handlers_suite_as ?_
          refine HandSPX.lands_againZ fl3 fun h4 fl4 up4 => ?_
          have J4 : Inv X pins σ' H' { s' with heap := h4 } := J.landed nb fl4.1 ((up.trans up3).trans up4) os ag
          obtain ⟨oe4, vs4, he4, hz4, hd4⟩ := fl4.there
          have S4 := J4.suite he4 hd4 na nL nF
          refine store_ok (X := X.suite a ((a, oe4) :: (X.pn ++ pins))) (v := .ref a) S4 hN hi (.inl hln) rfl (fun s5 S5 => ?_) (.inr hln)
          refine wpAny_mono ((hsu a oe4 cls d (X.pn ++ pins) hz4 ⟨_, hd4⟩).run [] s5 _ H' _ S5 (hyes rfl a na)) (fun f s6 hsp => ?_) (fun _ _ z => False.elim z)
          have end_ : ∀ {σ6 : L2.St} {H6 : Hp} {Q : Shared → Prop}, Inv (X.suite a ((a, oe4) :: (X.pn ++ pins))) [] σ6 H6 s6 → (∀ s7, Inv X pins (σ6.set i none) H6 s7 → Q s7) →
              wpAny (model X.prog X.w) X.A (do bindName X.env n .none; unbindBehindTheSuite X.env n pos') (fun _ s7 => Q s7) X.xe s6 := fun {σ6 H6 Q} S6 hq => gone_ok (S6.unsuite ok) hN hi hln hq
          cases f with
          | next => obtain ⟨σ6, H6, S6, q6⟩ := hsp; exact end_ S6 fun s7 J7 => ⟨_, _, J7, q6⟩
          | brk => obtain ⟨σ6, H6, S6, q6⟩ := hsp; exact end_ S6 fun s7 J7 => ⟨_, _, J7, q6⟩
          | cont => obtain ⟨σ6, H6, S6, q6⟩ := hsp; exact end_ S6 fun s7 J7 => ⟨_, _, J7, q6⟩
          | ret u => obtain ⟨v6, σ6, H6, S6, r6, q6⟩ := hsp; exact end_ S6 fun s7 J7 => ⟨_, _, _, J7, r6, q6⟩
        | false =>
          show wpAny _ X.A (handleBy (.ref a) X.env hs2) _ _ _
          exact ih (hno rfl)
    exact go hh w
  · cases f with
    | next => obtain ⟨σ', H', J', q⟩ := hsp; exact wpAny_execs_nil ⟨σ', H', J'.ofTry ok, q⟩
    | brk => obtain ⟨σ', H', J', q⟩ := hsp; exact ⟨σ', H', J'.ofTry ok, q⟩
    | cont => obtain ⟨σ', H', J', q⟩ := hsp; exact ⟨σ', H', J'.ofTry ok, q⟩
    | ret u => obtain ⟨v, σ', H', J', r, q⟩ := hsp; exact ⟨v, σ', H', J'.ofTry ok, r, q⟩
end
end Ev

set_option Elab.async false
set_option linter.all false
set_option maxRecDepth 100000
set_option maxHeartbeats 4000000
set_option autoImplicit false
/-! try: mirrors -/
namespace Ev
open PySem L2 PySem.Spec PyProof.Rows
/-- a clause's mirror: its class, the slot of its name, its suite by the class that came -/
abbrev HM := Str × Option Nat × (Str → S)
def offS (o : Option Nat) : M Unit := fun ρ => match o with
  | none => .ok () ρ
  | some i => (match ρ[i]? with
    | some .un => .ok () (ρ.set i .un)
    | some (.val _) => .ok () (ρ.set i .un)
    | _ => .bad)
def hdL (m : Str → Str → Option Bool) (all : Bool) : List HM → Xc → S
  | [], x => fun ρ => if all = true ∧ x.args = [] then .exc x ρ else .bad
  | (c, o, f) :: r, x => match m x.cls c with
    | some true => bnd (offS o) fun _ ρ => match f x.cls ρ with
      | .ok (.rt r) ρ' => .ok (.rt r) ρ'
      | .ok fl ρ' => bnd (offS o) (fun _ => Ev.ret fl) ρ'
      | _ => .bad
    | some false => hdL m all r x
    | none => fun _ => .bad
def sTry (m : Str → Str → Option Bool) (all : Bool) (body : S) (hs : List HM) : S := fun ρ => match body ρ with
  | .exc x ρ' => hdL m all hs x ρ'
  | r => r
section
variable {K : PySem.W.Frag} {Z : Addr → Prop} {σ : L2.St} {H : Hp} {ρ : Rho}
/-- a slot that owns nothing is forgotten -/
theorem SPost.off (E : ERel K Z σ H ρ) {i : Nat} {s : Slot} (hs : ρ[i]? = some s) (no : ∀ io lk c, s ≠ .own io lk c) (x : Option V) : SPost K Z σ H ρ (σ.set i x) H (ρ.set i .un) := by
  have hi : i < ρ.length := (List.getElem?_eq_some_iff.mp hs).1
  have hiσ : i < σ.length := by rw [E.len]; exact hi
  have own0 : ∀ j a, OwnAt (σ.set i x) (ρ.set i .un) j a → i ≠ j ∧ OwnAt σ ρ j a := fun j a h => by
    rcases own_set h with ⟨_, _, _, _, _, e⟩ | h
    · cases e
    · exact h
  have hdd : ∀ a, Hd Z (σ.set i x) (ρ.set i .un) a → Hd Z σ ρ a := fun a h => h.elim .inl fun ⟨j, z⟩ => .inr ⟨j, (own0 j a z).2⟩
  have sub : Sub (hid H (Hd Z σ ρ)) (hid H (Hd Z (σ.set i x) (ρ.set i .un))) := hid_mono fun b o q m => ⟨q, fun z => m (hdd b z)⟩
  refine ⟨⟨by rw [List.length_set, List.length_set]; exact E.len, fun j k a h1 h2 => E.inj j k a (own0 j a h1).2 (own0 k a h2).2, fun j sl e => ?_, E.zok, fun j a io lk c e1 e2 => ?_⟩, fun _ _ e _ => e, fun _ o e => ⟨o, e⟩, fun a ⟨j, h⟩ => .inl ⟨j, (own0 j a h).2⟩, fun a h => ?_, fun j io c e => ?_, fun j lk c e => ?_⟩
  · rcases set_get e with ⟨rfl, rfl⟩ | ⟨ne, e⟩
    · exact ⟨_, List.getElem?_set_self hiσ, trivial⟩
    · obtain ⟨ov, k1, k2⟩ := E.slot j sl e
      refine ⟨ov, by rw [List.getElem?_set_ne ne]; exact k1, ?_⟩
      cases sl with
      | un => trivial
      | val d => obtain ⟨w, q1, q2⟩ := k2; exact ⟨w, q1, dp_mono sub q2⟩
      | own io lk c => obtain ⟨a, q1, q2⟩ := k2; exact ⟨a, q1, cell_mono sub (fun o q => q) q2⟩
  · obtain ⟨ne, q1, _⟩ := own0 j a ⟨e1, io, lk, c, e2⟩
    rw [List.getElem?_set_ne ne] at e2
    exact E.zin j a io lk c q1 e2
  · obtain ⟨j, io, c, e1, e2⟩ := h
    obtain ⟨ne, q1, _⟩ := own0 j a ⟨e1, io, false, c, e2⟩
    rw [List.getElem?_set_ne ne] at e2
    exact .inl ⟨j, io, c, q1, e2⟩
  · rcases set_get e with ⟨_, z⟩ | ⟨ne, e⟩
    · cases z
    · exact ⟨e, List.getElem?_set_ne ne⟩
  · have ne : i ≠ j := by
      rintro rfl
      rw [hs] at e
      cases e
      exact no _ _ _ rfl
    exact ⟨c, by rw [List.getElem?_set_ne ne]; exact e, List.getElem?_set_ne ne⟩
theorem off_ok {o : Option Nat} {ρ' : Rho} (E : ERel K Z σ H ρ) (e : offS o ρ = .ok () ρ') (a : Addr) : SPost K Z σ H ρ (come o a σ) H ρ' ∧ SPost K Z σ H ρ (back o σ) H ρ' ∧ ∀ i, o = some i → (come o a σ)[i]? = some (some (.ref a)) := by
  cases o with
  | none => cases e; exact ⟨.refl E, .refl E, fun i z => by cases z⟩
  | some i =>
    simp only [offS] at e
    cases hs : ρ[i]? with
    | none => simp only [hs] at e; cases e
    | some s =>
      simp only [hs] at e
      have hi : i < σ.length := by rw [E.len]; exact (List.getElem?_eq_some_iff.mp hs).1
      cases s with
      | un => cases e; exact ⟨SPost.off E hs (fun _ _ _ z => nomatch z) _, SPost.off E hs (fun _ _ _ z => nomatch z) _, fun j z => by cases z; exact List.getElem?_set_self hi⟩
      | val d => cases e; exact ⟨SPost.off E hs (fun _ _ _ z => nomatch z) _, SPost.off E hs (fun _ _ _ z => nomatch z) _, fun j z => by cases z; exact List.getElem?_set_self hi⟩
      | own => cases e
theorem off_noexc {o : Option Nat} {ρ' : Rho} {x : Xc} : offS o ρ ≠ .exc x ρ' := by
  intro e
  unfold offS at e
  split at e
  · cases e
  · split at e <;> cases e
theorem sat_off {β : Type} {o : Option Nat} {k : Unit → M β} {p : β → Rho → Prop} {e : Xc → Rho → Prop} (h : (bnd (offS o) k ρ).sat p e) : ∃ ρ', offS o ρ = .ok () ρ' ∧ (k () ρ').sat p e := by
  unfold bnd at h
  cases q : offS o ρ with
  | ok d ρ' => rw [q] at h; exact ⟨ρ', rfl, h⟩
  | exc x ρ' => exact absurd q off_noexc
  | bad => rw [q] at h; exact h.elim
end
/-- what a suite is read as: the class that came, the slot that holds it -/
def tSu (K : PySem.W.Frag) (mg : Str → Option Value) (m : Str → Str → Option Bool) (x : Str) (o : Option Nat) (f : Str → S) : Addr → Value → Option Addr → TS := fun a cls d D σ H => ∃ xc, m xc x = some true ∧ mg xc = some cls ∧ d = none ∧ (∀ i, o = some i → σ[i]? = some (some (.ref a))) ∧ rdS K mg W0 (f xc) D σ H
inductive HOk (X : Cx) (m : Str → Str → Option Bool) : List ExceptHandler → List HM → Bool → Prop
  | nil : HOk X m [] [] true
  | rest {hs : List ExceptHandler} : HOk X m hs [] false
  | cons {x : Str} {C : Addr} {f : Str → S} {b₀ : Stmt} {suite : List Stmt} {np pos' : Pos} {hs : List ExceptHandler} {l : List HM} {all : Bool} (hc : Names X x (.ref C)) (hm : ∀ xc b cls, m xc x = some b → X.mg xc = some cls → PySem.W.exmOne X.K cls (.ref C) = some b)
      (hsu : ∀ (a : Addr) (oe : Obj) (pn : List (Addr × Obj)) (xc : Str), PSs (X.suite a ((a, oe) :: pn)) (b₀ :: suite) (rdS X.K X.mg W0 (f xc))) (r : HOk X m hs l all) :
      HOk X m (.ExceptHandler (some (.Name x np)) none (b₀ :: suite) pos' :: hs) ((x, none, f) :: l) all
  | name {x n : Str} {i : Nat} {C : Addr} {f : Str → S} {b₀ : Stmt} {suite : List Stmt} {np pos' : Pos} {hs : List ExceptHandler} {l : List HM} {all : Bool} (hc : Names X x (.ref C)) (hm : ∀ xc b cls, m xc x = some b → X.mg xc = some cls → PySem.W.exmOne X.K cls (.ref C) = some b) (hi : X.N[i]? = some n) (hln : X.env.kindOf n = some .local)
      (hsu : ∀ (a : Addr) (oe : Obj) (pn : List (Addr × Obj)) (xc : Str) (cls : Value), m xc x = some true → X.mg xc = some cls → Zc cls none oe → (∃ vs, oe.data = .fields vs) → PSs (X.suite a ((a, oe) :: pn)) (b₀ :: suite) (fun D σ H => σ[i]? = some (some (.ref a)) ∧ rdS X.K X.mg W0 (f xc) D σ H)) (r : HOk X m hs l all) :
      HOk X m (.ExceptHandler (some (.Name x np)) (some n) (b₀ :: suite) pos' :: hs) ((x, some i, f) :: l) all
section
variable {X : Cx} {W : WX} {pos : Pos} {m : Str → Str → Option Bool}
/-- the clauses as they are read -/
theorem hok_cls {hs : List ExceptHandler} {l : List HM} {all : Bool} (h : HOk X m hs l all) : ∃ cl, ClsOk X hs cl all ∧
    ∀ {Z : Addr → Prop} {σ0 σ : L2.St} {H0 H : Hp} {ρ0 ρ : Rho} {D : Ends} {x : Xc} {cls : Value} {d : Option Addr}, SPost X.K Z σ0 H0 ρ0 σ H ρ → XcOk X.mg x cls d H → (hdL m all l x ρ).sat (flP X.K Z σ0 H0 ρ0 D) (xcP X.K X.mg Z σ0 H0 ρ0 W) → wCl X.K W D all cl cls d σ H := by
  -- one clause that is come to
  have hit : ∀ {o : Option Nat} {f : Str → S} {c : Str} {Z : Addr → Prop} {σ0 σ : L2.St} {H0 H : Hp} {ρ0 ρ : Rho} {D : Ends} {x : Xc} {cls : Value} {d : Option Addr}, SPost X.K Z σ0 H0 ρ0 σ H ρ → XcOk X.mg x cls d H →
      ((bnd (offS o) fun _ ρ => match f x.cls ρ with
        | .ok (.rt r) ρ' => .ok (.rt r) ρ'
        | .ok fl ρ' => bnd (offS o) (fun _ => Ev.ret fl) ρ'
        | _ => .bad) ρ).sat (flP X.K Z σ0 H0 ρ0 D) (xcP X.K X.mg Z σ0 H0 ρ0 W) → m x.cls c = some true → ∀ a, tSu X.K X.mg m c o f a cls d (endsOf o D) (come o a σ) H := by
    intro o f c Z σ0 σ H0 H ρ0 ρ D x cls d P k S hm a
    obtain ⟨ρ1, e1, S1⟩ := sat_off S
    obtain ⟨P1, _, hσ⟩ := off_ok P.rel e1 a
    have P2 := P.trans P1
    refine ⟨x.cls, hm, k.1, k.2.2, hσ, Z, ρ1, P2.rel, ?_⟩
    cases q : f x.cls ρ1 with
    | bad => rw [q] at S1; exact S1.elim
    | exc x' ρ2 => rw [q] at S1; exact S1.elim
    | ok fl ρ2 =>
      rw [q] at S1
      have done : ∀ {σ' H'}, SPost X.K Z (come o a σ) H ρ1 σ' H' ρ2 → ∀ {fl : Fl}, (bnd (offS o) (fun _ => Ev.ret fl) ρ2).sat (flP X.K Z σ0 H0 ρ0 D) (xcP X.K X.mg Z σ0 H0 ρ0 W) → ∃ ρ3, SPost X.K Z σ0 H0 ρ0 (back o σ') H' ρ3 ∧ flP X.K Z σ0 H0 ρ0 D fl ρ3 := fun {σ' H'} P3 {fl} S2 => by
        obtain ⟨ρ3, e3, S3⟩ := sat_off S2
        exact ⟨ρ3, (P2.trans P3).trans (off_ok P3.rel e3 a).2.1, S3⟩
      cases fl with
      | nx =>
        intro σ' H' P3
        obtain ⟨ρ3, P4, z⟩ := done P3 S1
        exact z _ _ P4
      | bk =>
        intro σ' H' P3
        obtain ⟨ρ3, P4, z⟩ := done P3 S1
        exact z _ _ P4
      | ct =>
        intro σ' H' P3
        obtain ⟨ρ3, P4, z⟩ := done P3 S1
        exact z _ _ P4
      | rt r => exact fun σ' H' v P3 rr => S1 σ' H' v (P2.trans P3) (rtb_trans P2 rr)
  induction h with
  | nil =>
    refine ⟨[], .nil, fun {Z σ0 σ H0 H ρ0 ρ D x cls d} P k S => ?_⟩
    unfold hdL at S
    split at S
    · exact ⟨rfl, S σ cls d H P k⟩
    · exact S.elim
  | rest =>
    refine ⟨[], .rest, fun {Z σ0 σ H0 H ρ0 ρ D x cls d} P k S => ?_⟩
    unfold hdL at S
    rw [if_neg (fun z => absurd z.1 (by decide))] at S
    exact S.elim
  | cons hc hm hsu r ih =>
    rename_i x C f b₀ suite np pos' hs l all
    obtain ⟨cl, h1, h2⟩ := ih
    refine ⟨(.ref C, none, tSu X.K X.mg m x none f) :: cl, .cons hc (fun a oe cls d pn hz hf => ⟨fun pins s σ H D I ⟨xc, _, h3, h4, _, w⟩ => (hsu a oe pn xc).run pins s σ H D I w⟩) h1, fun {Z σ0 σ H0 H ρ0 ρ D xc cls d} P k S => ?_⟩
    unfold hdL at S
    cases q : m xc.cls x with
    | none => simp only [q] at S; exact S.elim
    | some b =>
      simp only [q] at S
      refine ⟨b, hm _ _ _ q k.1, fun e a na => ?_, fun e => ?_⟩
      · subst e; exact hit P k S q a
      · subst e; exact h2 P k S
  | name hc hm hi hln hsu r ih =>
    rename_i x n i C f b₀ suite np pos' hs l all
    obtain ⟨cl, h1, h2⟩ := ih
    refine ⟨(.ref C, some i, tSu X.K X.mg m x (some i) f) :: cl, .name hc hi hln (fun a oe cls d pn hz hf => ⟨fun pins s σ H D I ⟨xc, h0, h3, h4, h5, w⟩ => by
      subst h4
      exact (hsu a oe pn xc cls h0 h3 hz hf).run pins s σ H D I ⟨h5 i rfl, w⟩⟩) h1, fun {Z σ0 σ H0 H ρ0 ρ D xc cls d} P k S => ?_⟩
    unfold hdL at S
    cases q : m xc.cls x with
    | none => simp only [q] at S; exact S.elim
    | some b =>
      simp only [q] at S
      refine ⟨b, hm _ _ _ q k.1, fun e a na => ?_, fun e => ?_⟩
      · subst e; exact hit P k S q a
      · subst e; exact h2 P k S
theorem es_try {body : List Stmt} {h₀ : ExceptHandler} {hds : List ExceptHandler} {l : List HM} {all : Bool} {f : S} (hs : X.stack = X.env :: X.outer) (hf : X.env.frame = some X.env.locals) (hN : X.N.Nodup) (tk : Takes X W)
    (hb : ∀ (W : WX) (pn : List (Addr × Obj)) (xe : Value → Shared → Prop), Takes (X.tr pn xe) W → PassesOwn (model X.prog X.w) X.A X.env xe → ESs (X.tr pn xe) W body f) (hh : HOk X m (h₀ :: hds) l all) : ES X W (.Try body (h₀ :: hds) [] [] pos) (sTry m all f l) := by
  obtain ⟨cl, h1, h2⟩ := hok_cls (W := W) hh
  refine ps_imp (ps_tryF (tb := fun W => rdS X.K X.mg W f) hs hf hN tk (fun W pn xe t p => hb W pn xe t p) h1) fun D σ H ⟨Z, ρ, E, S⟩ => ?_
  refine ⟨Z, ρ, E, ?_⟩
  unfold sTry at S
  cases q : f ρ with
  | bad => rw [q] at S; exact S
  | ok fl ρ' => rw [q] at S; exact S
  | exc x ρ' =>
    rw [q] at S
    exact fun σ' cls d H' P k => h2 P k S
end
end Ev

set_option Elab.async false
set_option linter.all false
set_option maxRecDepth 100000
set_option maxHeartbeats 4000000
set_option autoImplicit false
/-! in the suite of a clause: isinstance of the exception that is held -/
namespace Ev
open PySem L2 PySem.Spec PyProof.Rows
/-- as EV, while slot i holds the exception at a -/
abbrev EVx (X : Cx) (i : Nat) (a : Addr) (e : Expr) (f : M RV) : Prop := PE X e (fun σ H Q => σ[i]? = some (some (.ref a)) ∧ rd X.K X.mg W0 f σ H Q)
abbrev EAx (X : Cx) (i : Nat) (a : Addr) (es : List Expr) (f : M (List RV)) : Prop := PA X es (fun σ H Q => σ[i]? = some (some (.ref a)) ∧ rdG X.K X.mg W0 (tAs X.K) f σ H Q)
section
variable {X : Cx} {pos : Pos} {i : Nat} {a : Addr}
theorem evx_of {e : Expr} {f : M RV} (h : EV X W0 e f) : EVx X i a e f := pe_imp h fun σ H Q w => w.2
theorem eax_nil : EAx X i a [] aNil := pa_imp ea_nil fun σ H Q w => w.2
theorem eax_cons {e : Expr} {es : List Expr} {f : M RV} {r : M (List RV)} (h : EVx X i a e f) (hr : EAx X i a es r) (hs : starEach (e :: es) X.env = (false, eval e X.env) :: starEach es X.env := by rfl) : EAx X i a (e :: es) (aCons f r) :=
  pa_imp (pa_cons h hr hs) fun σ H Q ⟨hσ, Z, ρ, E, S⟩ => by
    refine ⟨hσ, rd_of E (sat_bnd S) (fun a ρ1 v1 H1 P1 R1 S1 => ?_) fun x ρ1 cls d H1 P1 X1 e1 => e1 cls d H1 P1 X1⟩
    obtain ⟨a', ea, S1⟩ := sat_lift S1
    obtain ⟨R1, pn⟩ := pin_ok R1 ea
    refine ⟨hσ, rd_of P1.rel (sat_bnd S1) (fun as ρ2 vs H2 P2 R2 S2 => ?_) fun x ρ1 cls d H2 P2 X1 e1 => e1 cls d H2 (P1.trans P2) X1⟩
    exact S2 (v1 :: vs) H2 (P1.trans P2) (.cons ⟨pin_keep pn R1 P2 _, pn⟩ R2)
theorem evx_lst {es : List Expr} {f : M (List RV)} (h : EAx X i a es f) : EVx X i a (.List es pos) (eLst f) := pe_imp (pe_lst h) fun σ H Q ⟨hσ, Z, ρ, E, S⟩ => by
  refine ⟨hσ, rd_of E (sat_bnd S) (fun rs ρ1 vs H1 P1 R1 S1 => ?_) fun x ρ1 cls d H1 P1 X1 e1 => e1 cls d H1 P1 X1⟩
  obtain ⟨ds, ρ2, P2, h2, S2⟩ := escs_ok P1.rel R1 S1
  by_cases hl : ds.length ≤ lim
  · simp only [if_pos hl] at S2
    refine ⟨by rw [dps_len h2]; exact lim_line hl, fun p n => ?_⟩
    have P := P1.trans P2
    refine out_lst (K := X.K) hid_sub (Q := fun v H' => Q v H') (out_rv P.rel (rr := .lst ds) fun v H' P' R' => S2 v H' (P.trans P') (rv_from P R')) n h2
  · simp only [if_neg hl] at S2
    exact S2.elim
theorem evx_set {j : Nat} {x : Str} {e : Expr} {f : M RV} {pos' : Pos} (hN : X.N.Nodup) (hi : X.N[j]? = some x) (hx : Loc X.env.scope x) (he : EVx X i a e f) (hs : swapsWith e (some (.Name x pos')) pos.line X.env = pure false := by rfl) (hf : X.fn x = true ∨ X.env.scope.names.lookup x = some .local := by first | exact .inl rfl | exact .inr rfl | assumption) :
    PS X (.Assign [.Name x pos'] e pos) (fun D σ H => σ[i]? = some (some (.ref a)) ∧ rdS X.K X.mg W0 (sSet j f) D σ H) := ps_imp (ps_set hN hi hx he hs hf) fun D σ H w => ⟨w.1, rds_set w.2⟩
theorem esx_one {st : Stmt} {f : S} (h : PS X st (fun D σ H => σ[i]? = some (some (.ref a)) ∧ rdS X.K X.mg W0 f D σ H)) : PSs X [st] (fun D σ H => σ[i]? = some (some (.ref a)) ∧ rdS X.K X.mg W0 f D σ H) := pss_one h
end
/-- isinstance of the exception that the suite holds; a tuple of classes -/
def rIsET (K : PySem.W.Frag) (D a : Addr) : List V → Hp → VK → Prop := fun xs H Q => ∃ (tp : Addr) (cs : List V) (ws : List Value) (b : Bool), xs = [.ref a, .ref tp] ∧ H tp = some (.tup cs) ∧ (∀ its, Vals cs its → its = ws) ∧ PySem.W.kitAny K (.ref D) ws = some b ∧ Q (.bl b) H
theorem call_isET {X : Cx} {a D : Addr} {oe : Obj} {pn : List (Addr × Obj)} (C : ExcC X.K D) (hz : Zc (.ref D) none oe) (hf : ∃ vs, oe.data = .fields vs) : CallR (X.suite a ((a, oe) :: pn)) (.builtin "isinstance") (rIsET X.K D a) := by
  intro pins s σ H xs us Q I r h
  obtain ⟨tp, cs, ws, b, rfl, hT, hcs, e, q⟩ := h
  cases r with
  | cons rx rr =>
    cases rr with
    | cons rt rr =>
      cases rr
      cases rx
      cases rt
      obtain ⟨hget, _⟩ := I.pin (a, oe) (List.mem_append.mpr (.inl List.mem_cons_self))
      obtain ⟨vs, hv⟩ := hf
      have J : PySem.W.InstAt s.heap a oe D none := by
        obtain ⟨oc, od, oda, osl⟩ := oe
        obtain ⟨h1, h2⟩ := hz
        dsimp only at h1 h2 hv
        subst h1 h2 hv
        exact ⟨hget, rfl, rfl, trivial⟩
      obtain ⟨_, its, rv, o, h1, h2, n, h3⟩ := (show ObjOk X.prog X.w H s.heap tp (.tup cs) from I.hok tp _ hT)
      have e3 := hcs its rv
      subst e3
      obtain ⟨oc, od, dt, sl⟩ := o
      simp only at h2 h3
      subst h2 h3
      exact PySem.W.kia_tup (PySem.W.handS_kitx_exc C.hg C.hk C.hs C.hd C.ha C.hn C.ht C.hm) I.kIn J h1 e (fun z => nomatch z) fun tk => ⟨.bl b, H, I.kept (t' := tk) fun _ _ z => z, rfl, q⟩
section
variable {X : Cx} {pos : Pos} {i : Nat} {a : Addr} {oe : Obj} {pn : List (Addr × Obj)} {D : Addr}
/-- a class by its name: its value -/
structure CN (X : Cx) (e : Expr) (v : V) (u : Value) : Prop where
  pe : PE X e (tC v)
  is : ∀ u', RelV v u' → u' = u
theorem cn_own {x : Str} {C : Addr} (hg : Gl X x) (hm : X.mg x = some (.ref C)) (hd : (x == ("__debug__" : Str)) = false := by decide) : CN X (.Name x pos) (.ref C) (.ref C) := ⟨pe_glob hg hm rfl hd, fun u' r => r⟩
theorem cn_bt {x : Str} {t : String} (hg : Gl X x) (hm : X.mg x = none) (hv : bootBuiltins x = some (.type t)) (hn : x ≠ "__name__" := by decide) (hd : (x == ("__debug__" : Str)) = false := by decide) : CN X (.Name x pos) (.ty t) (.type t) := ⟨pty t hg hm hv hn hd, fun u' r => r⟩
theorem evx_isi {x : Str} {c : Expr} {v : V} {u : Value} {b : Bool} {p p2 : Pos} (C : ExcC X.K D) (hz : Zc (.ref D) none oe) (hf : ∃ vs, oe.data = .fields vs) (hg : Gl (X.suite a ((a, oe) :: pn)) "isinstance") (hm : X.mg "isinstance" = none)
    (hv : PE (X.suite a ((a, oe) :: pn)) (.Name x p2) (tVar i)) (cn : CN (X.suite a ((a, oe) :: pn)) c v u) (hk : PySem.W.kitOne X.K (.ref D) u = some b)
    (hs1 : starEach [.Name x p2, c] X.env = (false, eval (.Name x p2) X.env) :: starEach [c] X.env := by rfl) (hs2 : starEach [c] X.env = (false, eval c X.env) :: starEach [] X.env := by rfl)
    (hpl : (backTo pos (starEach [c] X.env)).any (·.1) = false := by rfl) : EVx (X.suite a ((a, oe) :: pn)) i a (.Call (.Name "isinstance" p) [.Name x p2, c] [] pos) (eK (.bool b)) :=
  pe_imp (pe_callB (call_isE C hz hf) hg hm boot_isinstance (pa_cons hv (pa_cons cn.pe pa_nil hs2) hs1) (by decide) (by decide) hs1 hpl) fun σ H Q ⟨hσ, Z, ρ, E, S⟩ =>
    ⟨.ref a, hσ, v, u, b, rfl, cn.is, hk, S (.bl b) H (.refl E) (.bl b)⟩
inductive CNs (X : Cx) : List Expr → List V → List Value → Prop
  | nil : CNs X [] [] []
  | cons {e : Expr} {es : List Expr} {v : V} {vs : List V} {u : Value} {us : List Value} (h : CN X e v u) (t : CNs X es vs us) (hs : starEach (e :: es) X.env = (false, eval e X.env) :: starEach es X.env := by rfl) : CNs X (e :: es) (v :: vs) (u :: us)
theorem cns_pa {es : List Expr} {vs : List V} {us : List Value} (h : CNs X es vs us) : PA X es (fun _ H Q => Q vs H) ∧ ∀ its, Vals vs its → its = us := by
  induction h with
  | nil => exact ⟨pa_imp pa_nil fun σ H Q w => w, fun its r => by cases r; rfl⟩
  | cons h t hs ih => exact ⟨pa_imp (pa_cons h.pe ih.1 hs) fun σ H Q w => w, fun its r => by
      cases r with
      | cons r1 r2 => rw [h.is _ r1, ih.2 _ r2]⟩
theorem evx_isis {x : Str} {es : List Expr} {vs : List V} {us : List Value} {b : Bool} {p p2 p3 : Pos} {kk : Nat} (C : ExcC X.K D) (hz : Zc (.ref D) none oe) (hf : ∃ vs, oe.data = .fields vs) (hg : Gl (X.suite a ((a, oe) :: pn)) "isinstance") (hm : X.mg "isinstance" = none)
    (hv : PE (X.suite a ((a, oe) :: pn)) (.Name x p2) (tVar i)) (cn : CNs (X.suite a ((a, oe) :: pn)) es vs us) (hl : vs.length ≤ 100) (hk : PySem.W.kitAny X.K (.ref D) us = some b)
    (hs1 : starEach [.Name x p2, .Tuple es kk p3] X.env = (false, eval (.Name x p2) X.env) :: starEach [.Tuple es kk p3] X.env := by rfl) (hs2 : starEach [.Tuple es kk p3] X.env = (false, eval (.Tuple es kk p3) X.env) :: starEach [] X.env := by rfl)
    (hpl : (backTo pos (starEach [.Tuple es kk p3] X.env)).any (·.1) = false := by rfl) : EVx (X.suite a ((a, oe) :: pn)) i a (.Call (.Name "isinstance" p) [.Name x p2, .Tuple es kk p3] [] pos) (eK (.bool b)) :=
  pe_imp (pe_callB (call_isET C hz hf) hg hm boot_isinstance (pa_cons hv (pa_cons (pe_tup (cns_pa cn).1) pa_nil hs2) hs1) (by decide) (by decide) hs1 hpl) fun σ H Q ⟨hσ, Z, ρ, E, S⟩ =>
    ⟨.ref a, hσ, by rw [sizeLine_eq]; omega, fun T n => ⟨T, vs, us, b, rfl, upd_same, (cns_pa cn).2, hk, S (.bl b) _ (EPost.same E (same_upd n)) (.bl b)⟩⟩
end
end Ev

set_option Elab.async false
set_option linter.all false
set_option maxRecDepth 100000
set_option maxHeartbeats 4000000
set_option autoImplicit false
/-! dicts that a slot owns -/
namespace Ev
open PySem L2 PySem.Spec PyProof.Rows
def keyOf? : D → Option Key
  | .int i => some (.inl i)
  | .str x => some (.inr x)
  | _ => none
theorem keyOf_is {d : D} {k : Key} (h : keyOf? d = some k) : d = keyD k := by
  cases d <;> first | (cases h; rfl) | cases h
theorem keyD_of {k : Key} : keyOf? (keyD k) = some k := by cases k <;> rfl
def putD (kvs : List (D × D)) (k : Key) (d : D) : List (D × D) :=
  if (kvs.any fun q => decide (keyOf? q.1 = some k)) = true then kvs.map (fun q => if keyOf? q.1 = some k then (q.1, d) else q) else kvs ++ [(keyD k, d)]
theorem put_kv {K : PySem.W.Frag} {G : Hp} {ks : List (Key × V)} {kvs : List (D × D)} {k : Key} {v : V} {d : D} (h : KvD K G ks kvs) (hv : Dp K G v d) : KvD K G (putK ks k v) (putD kvs k d) := by
  have key : ∀ {p : Key × V} {q : D × D}, keyD p.1 = q.1 → (p.1 = k ↔ keyOf? q.1 = some k) := fun {p q} e => by
    rw [← e, keyD_of]
    exact ⟨fun z => by rw [z], fun z => Option.some.inj z⟩
  have any : (ks.any fun kv => decide (kv.1 = k)) = kvs.any fun q => decide (keyOf? q.1 = some k) := by
    induction h with
    | nil => rfl
    | cons h t ih =>
      rw [List.any_cons, List.any_cons, ih]
      congr 1
      exact decide_eq_decide.mpr (key h.1)
  unfold putK putD
  rw [any]
  split
  · have mp : ∀ {ks : List (Key × V)} {kvs : List (D × D)}, KvD K G ks kvs → KvD K G (ks.map fun kv => if kv.1 = k then (kv.1, v) else kv) (kvs.map fun q => if keyOf? q.1 = some k then (q.1, d) else q) := by
      intro ks kvs h
      induction h with
      | nil => exact .nil
      | cons h t ih =>
        rename_i p q _ _
        rw [List.map_cons, List.map_cons]
        refine .cons ?_ ih
        by_cases e : p.1 = k
        · rw [if_pos e, if_pos ((key h.1).mp e)]
          exact ⟨h.1, hv⟩
        · rw [if_neg e, if_neg fun z => e ((key h.1).mpr z)]
          exact h
    exact mp h
  · have app : ∀ {ks : List (Key × V)} {kvs : List (D × D)}, KvD K G ks kvs → KvD K G (ks ++ [(k, v)]) (kvs ++ [(keyD k, d)]) := by
      intro ks kvs h
      induction h with
      | nil => exact .cons ⟨rfl, hv⟩ .nil
      | cons h t ih => exact .cons h ih
    exact app h
section
variable {X : Cx} {W : WX} {pos : Pos}
/-- {} -/
def eDnew : M RV := Ev.ret (.tmp (.dic []))
theorem ev_dnew : EV X W (.Dict [] [] pos) eDnew := pe_imp pe_dnewK fun σ H Q ⟨Z, ρ, E, S⟩ => fun p n => by
  have sm := same_upd (o := .dK []) n
  have nz : ¬ Hd Z σ ρ p := fun z => by
    obtain ⟨o', q⟩ := E.there z
    rw [n] at q
    cases q
  exact S (.ref p) _ (.same E sm) ⟨p, rfl, n, fun z => nz (.inl z), fun z => nz (.inr z), E.hide sm n ⟨_, upd_same⟩, [], upd_same, .nil⟩
/-- d[k] = e -/
def sDput (i : Nat) (ix f : M RV) : S := bnd f fun a => bnd (esc a) fun d ρ => match ρ[i]? with
  | some (.own _ _ _) => bnd ix (fun k ρ => match ρ[i]?, (der ρ k).bind keyOf? with
    | some (.own io false (.dic kvs)), some z => if kvs.length < 1000000 then .ok .nx (ρ.set i (.own io false (.dic (putD kvs z d)))) else .bad
    | _, _ => .bad) ρ
  | _ => .bad
theorem kvd_len {K : PySem.W.Frag} {G : Hp} {ks : List (Key × V)} {kvs : List (D × D)} (h : KvD K G ks kvs) : ks.length = kvs.length := Paired.length h
theorem es_dput {o ie e : Expr} {i : Nat} {ix f : M RV} {tpos : Pos} (hu : X.A.units + 64 < cLine) (ho : PE X o (tVar i)) (hi : EV X W ie ix) (he : EV X W e f) (hs : swapsWith e (some (.Subscript o ie tpos)) pos.line X.env = pure false := by rfl) :
    ES X W (.Assign [.Subscript o ie tpos] e pos) (sDput i ix f) :=
  ps_imp (ps_dput (by omega) ho hi he hs) fun D σ H ⟨Z, ρ, E, S⟩ => by
    refine rd_of E (sat_bnd S) (fun a ρ1 v1 H1 P1 R1 S1 => ?_) fun x ρ1 cls d H1 P1 X1 e1 => xc_ev (.refl E) e1 P1 X1
    obtain ⟨d, ρ2, q, S2⟩ := sat_esc S1
    obtain ⟨P2, h2⟩ := esc_ok P1.rel R1 q
    have P12 := (P1.trans P2).sp
    cases hs : ρ2[i]? with
    | none => simp only [hs] at S2; exact S2.elim
    | some sl =>
      simp only [hs] at S2
      cases sl with
      | un => exact S2.elim
      | val d => exact S2.elim
      | own io lk c =>
        simp only at S2
        obtain ⟨ov, k1, p, e, _⟩ := P2.rel.slot i _ hs
        subst e
        refine ⟨_, k1, ?_⟩
        refine rd_of P2.rel (sat_bnd S2) (fun b ρ3 v3 H3 P3 R3 S3 => ?_) fun x ρ1 cls d H2 P2' X1 e1 => xc_ev P12 e1 P2' X1
        cases hs2 : ρ3[i]? with
        | none => simp only [hs2] at S3; exact S3.elim
        | some sl =>
          cases hk : der ρ3 b with
          | none => simp only [hs2, hk, Option.bind_none] at S3; cases sl <;> first | exact S3.elim | (rename_i io lk c; cases lk <;> cases c <;> exact S3.elim)
          | some dk =>
            simp only [hs2, hk, Option.bind_some] at S3
            split at S3
            · rename_i io3 kvs z e1 e2
              cases e1
              split at S3
              · rename_i hl
                obtain ⟨ov, k2, a2, e2', ks, h3, h4⟩ := P3.rel.slot i _ hs2
                rw [k1] at k2
                cases k2
                cases e2'
                have ek := keyOf_is e2
                subst ek
                have hv : v3 = kV z := by
                  have := der_ok P3.rel R3 hk
                  cases z with
                  | inl j => exact dvInt this
                  | inr j => exact dvStr this
                have h2' := dp_mono P3.sub h2
                refine ⟨p, _, rfl, by rw [hv]; exact DPut.k h3 (by rw [kvd_len h4, sizeLine_eq]; omega), ?_⟩
                have sub := put_sub (Z := Z) (H := H3) (o := .dK (putK ks z v1)) (c' := .dic (putD kvs z d)) k1 hs2
                have P4 := EPost.put P3.rel k1 hs2 (o := .dK (putK ks z v1)) (c' := .dic (putD kvs z d)) ⟨_, upd_same, Paired.mapP (put_kv h4 h2') fun p q z => ⟨z.1, dp_mono sub z.2⟩⟩
                exact S3 σ _ (P12.trans (P3.trans P4).sp)
              · exact S3.elim
            · exact S3.elim
/-- sorted(d), the keys ints -/
def eSortDic (i : Nat) : M RV := fun ρ => match ρ[i]? with
  | some (.own _ _ (.dic kvs)) => if (kvs.map (·.1)).all isI = true ∧ kvs.length < 64 then .ok (.tmp (.lst (isort (kvs.map (·.1))))) ρ else .bad
  | _ => .bad
theorem kvd_ints {K : PySem.W.Frag} {G : Hp} {ks : List (Key × V)} {kvs : List (D × D)} {ns : List Int} (h : KvD K G ks kvs) (e : kvs.map (·.1) = ns.map PyData.int) : ks.map (·.1) = ns.map Sum.inl := by
  induction h generalizing ns with
  | nil => cases ns with
    | nil => rfl
    | cons => simp at e
  | cons h t ih =>
    rename_i p q _ _
    cases ns with
    | nil => simp at e
    | cons n ns =>
      simp only [List.map_cons, List.cons.injEq] at e ⊢
      refine ⟨?_, ih e.2⟩
      have h1 := h.1
      rw [e.1] at h1
      cases hp : p.1 with
      | inl j => rw [hp] at h1; cases h1; rfl
      | inr j => rw [hp] at h1; cases h1
def unI : D → Int
  | .int i => i
  | _ => 0
theorem unI_map : ∀ l : List Int, (l.map PyData.int).map unI = l
  | [] => rfl
  | x :: xs => by rw [List.map_cons, List.map_cons, unI_map xs] <;> rfl
theorem sort_ints {ks ys : List Int} (p : ys.Perm ks) (s : ys.Pairwise (· ≤ ·)) : ys.map PyData.int = isort (ks.map PyData.int) := by
  -- both are sorted and of the same things; equal ints are the same
  have e1 : (isort (ks.map PyData.int)).Perm (ks.map PyData.int) := by rw [isort_is]; exact List.mergeSort_perm _ _
  have hI : ∀ d ∈ isort (ks.map PyData.int), ∃ i, d = PyData.int i := fun d hd => by
    obtain ⟨i, _, rfl⟩ := List.mem_map.mp (e1.mem_iff.mp hd)
    exact ⟨i, rfl⟩
  have back : ∀ {l : List D}, (∀ d ∈ l, ∃ i, d = PyData.int i) → ∃ ns : List Int, l = ns.map PyData.int := by
    intro l
    induction l with
    | nil => intro _; exact ⟨[], rfl⟩
    | cons d l ih =>
      intro h
      obtain ⟨i, rfl⟩ := h d List.mem_cons_self
      obtain ⟨ns, rfl⟩ := ih fun x hx => h x (List.mem_cons_of_mem _ hx)
      exact ⟨i :: ns, rfl⟩
  obtain ⟨ns, en⟩ := back hI
  have srt := isort_sorted (ks.map PyData.int)
  rw [en] at srt e1 ⊢
  have p2 : ns.Perm ks := by
    have := e1
    have f := this.map unI
    rw [unI_map, unI_map] at f
    exact f
  have s2 : ns.Pairwise (· ≤ ·) := (List.pairwise_map.mp srt).imp fun {a b} h => by
    rw [leD_eq, lt_int] at h
    simpa using h
  congr 1
  exact (p.trans p2.symm).eq_of_pairwise (fun a b _ _ h k => Int.le_antisymm h k) s s2
theorem ev_sortDic {x : Str} {i : Nat} {p p2 : Pos} (hc : X.calm = true) (hu : X.A.units + 64 < cLine) (hg : Gl X "sorted") (hm : X.mg "sorted" = none) (hv : PE X (.Name x p2) (tVar i)) (hs : starEach [.Name x p2] X.env = (false, eval (.Name x p2) X.env) :: starEach [] X.env := by rfl)
    (hpl : (backTo pos (starEach [] X.env)).any (·.1) = false := by rfl) : EV X W (.Call (.Name "sorted" p) [.Name x p2] [] pos) (eSortDic i) :=
  pe_imp (pe_callB (call_sortedDI hc) hg hm PyProof.Rows.boot_sorted (pa_cons hv pa_nil hs) (by decide) (by decide) hs hpl) fun σ H Q ⟨Z, ρ, E, S⟩ => by
    unfold eSortDic at S
    cases hs : ρ[i]? with
    | none => simp only [hs] at S; exact S.elim
    | some sl =>
      simp only [hs] at S
      cases sl with
      | un => exact S.elim
      | val d => exact S.elim
      | own io lk c =>
        cases c with
        | lst ds => exact S.elim
        | dic kvs =>
          simp only at S
          split at S
          · rename_i hk
            obtain ⟨ov, k1, a, e, ks, h1, h2⟩ := E.slot i _ hs
            subst e
            obtain ⟨ns, en⟩ := ints_map hk.1
            have hl : ns.length < 64 := by
              have := congrArg List.length en
              rw [List.length_map, List.length_map] at this
              omega
            refine ⟨.ref a, k1, a, ks, ns, rfl, .inl h1, kvd_ints h2 en, hl, fun ys p pr st n => ?_⟩
            rw [en, ← sort_ints pr st] at S
            exact out_lst (K := X.K) hid_sub (Q := fun v H' => Q v H') (out_rv E (rr := .lst (ys.map PyData.int)) fun v H' P' R' => S v H' P' R') n (dps_ints _)
          · exact S.elim
end
end Ev

set_option Elab.async false
set_option linter.all false
set_option maxRecDepth 100000
set_option maxHeartbeats 4000000
set_option autoImplicit false
/-! [x] * n; calls without arguments; constants of the module -/
namespace Ev
open PySem L2 PySem.Spec PyProof.Rows
section
variable {X : Cx} {W : WX} {pos : Pos}
def eRepL (f g : M RV) : M RV := bnd f fun a => match a with
  | .tmp (.lst ds) => bnd g fun b ρ => match der ρ b with
    | some (.int k) => if (k < 16777216 ∧ -16777216 < k) ∧ ds.length * k.toNat ≤ lim then .ok (.tmp (.lst (List.replicate k.toNat ds).flatten)) ρ else .bad
    | _ => .bad
  | _ => fun _ => .bad
theorem ev_repL {a b : Expr} {f g : M RV} (ha : EV X W a f) (hb : EV X W b g) : EV X W (.BinOp a .Mult b pos) (eRepL f g) := pe_imp (pe_op op_rep ha hb) fun σ H Q ⟨Z, ρ, E, S⟩ => by
  refine rd_of E (sat_bnd S) (fun a ρ1 v1 H1 P1 R1 S1 => ?_) fun x ρ1 cls d H1 P1 X1 e1 => e1 cls d H1 P1 X1
  cases a with
  | val d => exact S1.elim
  | bor i => exact S1.elim
  | tmp c =>
    cases c with
    | dic kvs => exact S1.elim
    | lst ds =>
      obtain ⟨A, rfl, n, nz, no, E', vs, hA, hvs⟩ := R1
      refine rd_of E' (sat_bnd S1) (fun b ρ2 v2 H2 P2 R2 S2 => ?_) fun x ρ1 cls d H2 P2 X1 e1 => e1 cls d H2 (P1.trans (P2.unhide no)) X1
      cases qb : der ρ2 b with
      | none => simp only [qb] at S2; exact S2.elim
      | some d =>
        simp only [qb] at S2
        cases d with
        | int k =>
          simp only at S2
          split at S2
          · rename_i h
            have P2' := P2.unhide no
            have P := P1.trans P2'
            have no2 : ¬ Own σ ρ2 A := fun z => no (P2.evo.owns z)
            have hA2 := P2.fr A _ hA fun z => no z.own
            have hvs2 : DpAll X.K (hid H2 (Hd Z σ ρ2)) vs ds := dps_mono (fun c o q => by
              obtain ⟨q1, q2⟩ := hid_iff.mp q
              obtain ⟨q3, q5⟩ := hid_iff.mp (P2.sub c o (hid_iff.mpr ⟨q1, fun z => q2 (by rcases z with (z | z) | z; exact .inl (.inl z); exact .inr z; exact .inl (.inr z))⟩))
              exact hid_iff.mpr ⟨q3, fun z => q5 (z.imp_left .inl)⟩) hvs
            refine ⟨A, k, vs, rfl, dvInt (der_ok P2.rel R2 qb), hA2, by omega, by omega, by rw [dps_len hvs2]; exact lim_line h.2, fun p n2 => ?_⟩
            exact out_lst (K := X.K) hid_sub (Q := fun v H' => Q v H') (out_rv P.rel (rr := .lst (List.replicate k.toNat ds).flatten) fun v H' P' R' => S2 v H' (P.trans P') (rv_from P R')) n2 (dps_rep hvs2 _)
          · exact S2.elim
        | none | bool | str | list | tuple | dict => exact S2.elim
/-- a call without arguments -/
def eCall0 (F : Fn) : M RV := fun ρ => match F [] with
  | .ok r _ => .ok r.rv ρ
  | .exc x _ => .exc x ρ
  | .bad => .bad
theorem ev_call0 {k j : Nat} {x : Str} {st : Stmt} {F : Fn} {p : Pos} (G : DefS X.prog X.w X.K X.mg X.base k x st [] F) (hr : Room j X.A) (hj : k ≤ j) (hg : Gl X x) (tk : Takes X W)
    (hb : ∀ (kV doc pm : Value) (an : Option Addr) (cdv ct : Value), bindArgs (PySem.W.fnOf x x (defArgs st) (defBody st) (defScope st) .none kV doc pm an cdv ct) ⟨[], []⟩ = pure []) (hdb : (x == ("__debug__" : Str)) = false := by decide) : EV X W (.Call (.Name x p) [] [] pos) (eCall0 F) := by
  obtain ⟨f, fd, g, hm, Fu⟩ := G.ex
  refine ⟨fun pins s σ H Q I ⟨Z, ρ, E, S⟩ => ?_⟩
  refine wpAny_Call_Name_kw (ld_glob I hg hm ?_ hdb)
  refine PySem.W.callWith_K0 I.kIn Fu.kp ?_
  obtain ⟨oc, od, kV, doc, pm, an, cdv, ct, osl, rfl, lk, hcd⟩ := Fu.ex
  have h : spOf X.K X.mg 0 F [] H Q (WE W σ) := call_vals (vs := []) (ds := []) (EPost.refl E) rfl .nil S
  refine run_key (vs := []) (us := []) (ws := []) (zs := []) (ks := []) (perm := []) g (hr.mono hj) (fun s us ws hK h1 h2 => ?_) (passAt tk σ) I .nil .nil h
  cases us with
  | cons => cases h1
  | nil =>
    cases ws with
    | cons => cases h2
    | nil => exact .of_eq (hb kV doc pm an cdv ct)
/-- a constant of the module -/
def KOk (K : PySem.W.Frag) (mg : Str → Option Value) (x : Str) (d : D) : Prop := ∃ v u, mg x = some u ∧ RelV v u ∧ ∀ G : Hp, Dp K G v d
theorem ev_const {x : Str} {d : D} (hg : Gl X x) (h : KOk X.K X.mg x d) (hd : (x == ("__debug__" : Str)) = false := by decide) : EV X W (.Name x pos) (eK d) := by
  obtain ⟨v, u, hm, r, k⟩ := h
  exact ev_K (pe_glob hg hm r hd) k
end
end Ev

set_option Elab.async false
set_option linter.all false
set_option maxRecDepth 100000
set_option maxHeartbeats 4000000
set_option autoImplicit false
/-! isinstance in short -/
namespace Ev
open PySem L2 PySem.Spec PyProof.Rows
def ofB (b : Bool) : Option RR := some (.sol (.bool b))
def isLT : D → Option RR
  | .list _ => ofB true
  | .tuple _ => ofB true
  | .dict _ => none
  | _ => ofB false
def isLi : D → Option RR
  | .list _ => ofB true
  | .dict _ => none
  | _ => ofB false
def isTu : D → Option RR
  | .tuple _ => ofB true
  | .dict _ => none
  | _ => ofB false
def isIn : D → Option RR
  | .int _ => ofB true
  | .bool _ => ofB true
  | .dict _ => none
  | _ => ofB false
def isBo : D → Option RR
  | .bool _ => ofB true
  | .dict _ => none
  | _ => ofB false
def isSt : D → Option RR
  | .str _ => ofB true
  | .dict _ => none
  | _ => ofB false
theorem isLT_eq : dIsis ["list", "tuple"] = isLT := by
  have k1 : kitBs "NoneType" ["list", "tuple"] = some false := by decide +kernel
  have k2 : kitBs "bool" ["list", "tuple"] = some false := by decide +kernel
  have k3 : kitBs "int" ["list", "tuple"] = some false := by decide +kernel
  have k4 : kitBs "str" ["list", "tuple"] = some false := by decide +kernel
  have k5 : kitBs "list" ["list", "tuple"] = some true := by decide +kernel
  have k6 : kitBs "tuple" ["list", "tuple"] = some true := by decide +kernel
  funext d
  cases d <;> simp [dIsis, noDict, tyD, isLT, ofB, k1, k2, k3, k4, k5, k6]
theorem isTL_eq : dIsis ["tuple", "list"] = isLT := by
  have k1 : kitBs "NoneType" ["tuple", "list"] = some false := by decide +kernel
  have k2 : kitBs "bool" ["tuple", "list"] = some false := by decide +kernel
  have k3 : kitBs "int" ["tuple", "list"] = some false := by decide +kernel
  have k4 : kitBs "str" ["tuple", "list"] = some false := by decide +kernel
  have k5 : kitBs "list" ["tuple", "list"] = some true := by decide +kernel
  have k6 : kitBs "tuple" ["tuple", "list"] = some true := by decide +kernel
  funext d
  cases d <;> simp [dIsis, noDict, tyD, isLT, ofB, k1, k2, k3, k4, k5, k6]
theorem isLi_eq : dIsi "list" = isLi := by
  have k1 : kitB "NoneType" "list" = some false := by decide +kernel
  have k2 : kitB "bool" "list" = some false := by decide +kernel
  have k3 : kitB "int" "list" = some false := by decide +kernel
  have k4 : kitB "str" "list" = some false := by decide +kernel
  have k5 : kitB "list" "list" = some true := by decide +kernel
  have k6 : kitB "tuple" "list" = some false := by decide +kernel
  funext d
  cases d <;> simp [dIsi, noDict, tyD, isLi, ofB, k1, k2, k3, k4, k5, k6]
theorem isTu_eq : dIsi "tuple" = isTu := by
  have k1 : kitB "NoneType" "tuple" = some false := by decide +kernel
  have k2 : kitB "bool" "tuple" = some false := by decide +kernel
  have k3 : kitB "int" "tuple" = some false := by decide +kernel
  have k4 : kitB "str" "tuple" = some false := by decide +kernel
  have k5 : kitB "list" "tuple" = some false := by decide +kernel
  have k6 : kitB "tuple" "tuple" = some true := by decide +kernel
  funext d
  cases d <;> simp [dIsi, noDict, tyD, isTu, ofB, k1, k2, k3, k4, k5, k6]
theorem isIn_eq : dIsi "int" = isIn := by
  have k1 : kitB "NoneType" "int" = some false := by decide +kernel
  have k2 : kitB "bool" "int" = some true := by decide +kernel
  have k3 : kitB "int" "int" = some true := by decide +kernel
  have k4 : kitB "str" "int" = some false := by decide +kernel
  have k5 : kitB "list" "int" = some false := by decide +kernel
  have k6 : kitB "tuple" "int" = some false := by decide +kernel
  funext d
  cases d <;> simp [dIsi, noDict, tyD, isIn, ofB, k1, k2, k3, k4, k5, k6]
theorem isBo_eq : dIsi "bool" = isBo := by
  have k1 : kitB "NoneType" "bool" = some false := by decide +kernel
  have k2 : kitB "bool" "bool" = some true := by decide +kernel
  have k3 : kitB "int" "bool" = some false := by decide +kernel
  have k4 : kitB "str" "bool" = some false := by decide +kernel
  have k5 : kitB "list" "bool" = some false := by decide +kernel
  have k6 : kitB "tuple" "bool" = some false := by decide +kernel
  funext d
  cases d <;> simp [dIsi, noDict, tyD, isBo, ofB, k1, k2, k3, k4, k5, k6]
theorem isSt_eq : dIsi "str" = isSt := by
  have k1 : kitB "NoneType" "str" = some false := by decide +kernel
  have k2 : kitB "bool" "str" = some false := by decide +kernel
  have k3 : kitB "int" "str" = some false := by decide +kernel
  have k4 : kitB "str" "str" = some true := by decide +kernel
  have k5 : kitB "list" "str" = some false := by decide +kernel
  have k6 : kitB "tuple" "str" = some false := by decide +kernel
  funext d
  cases d <;> simp [dIsi, noDict, tyD, isSt, ofB, k1, k2, k3, k4, k5, k6]
section
variable {X : Cx} {W : WX}
/-- isinstance of two classes, in short -/
def eIsG (g : D → Option RR) (f : M RV) : M RV := bnd f fun a => bnd (lift (pin a)) fun a ρ => match der ρ a with
  | some d => (match g d with
    | some rr => .ok (outRV rr) ρ
    | none => .bad)
  | none => .bad
theorem ev_isG {e : Expr} {ts : List String} {g : D → Option RR} {f : M RV} (q : dIsis ts = g) (h : EV X W e (eIsis ts f)) : EV X W e (eIsG g f) := by subst q; exact h
theorem ev_isO {e : Expr} {t : String} {g : D → Option RR} {f : M RV} (q : dIsi t = g) (h : EV X W e (eOp1 (dIsi t) f)) : EV X W e (eOp1 g f) := by subst q; exact h
end
end Ev

set_option Elab.async false
set_option linter.all false
set_option maxRecDepth 100000
set_option maxHeartbeats 4000000
set_option autoImplicit false
/-! the laws' own small defs: their mirrors are alike in every law -/
namespace Ev
open PySem L2 PySem.Spec PyProof.Rows
def takeM : Fn := bodyF 4 (sSeq (sIf (tBool (eOp2 dGt (eOp2 dIx (eVar 0) (eK (.int 0))) (eK (.int 0)))) (sSeq (sSet 5 (eOp2 dMod (eB (on1 dInt) (aCons (eOp2 dIx (eVar 0) (eK (.int 0))) (aNil))) (eVar 1))) (sSeq (sSub 0 (eK (.int 0)) (eOp2 dDiv (eOp2 dIx (eVar 0) (eK (.int 0))) (eVar 1))) (sRet (eVar 5)))) (sNx)) (sSeq (sSub 0 (eK (.int 2)) (eOp2 dAdd (eOp2 dIx (eVar 0) (eK (.int 2))) (eK (.int 1)))) (sSeq (sSet 2 (eOp2 dMod (eB (on1 dInt) (aCons (eOp2 dMul (eOp2 dAdd (eOp2 dIx (eVar 0) (eK (.int 1))) (eOp2 dMul (eK (.int 48271)) (eOp2 dIx (eVar 0) (eK (.int 2))))) (eOp2 dAdd (eK (.int 39373)) (eOp2 dIx (eVar 0) (eK (.int 2))))) (aNil))) (eK (.int 2147483647)))) (sSeq (sSet 3 (eOp2 dAdd (eOp2 dMod (eB (on1 dInt) (aCons (eVar 2) (aNil))) (eK (.int 40009))) (eK (.int 7)))) (sSeq (sSet 4 (eOp2 dMod (eB (on1 dInt) (aCons (eOp2 dMul (eOp2 dAdd (eOp2 dAdd (eVar 2) (eOp2 dIx (eVar 0) (eK (.int 2)))) (eOp2 dDiv (eOp2 dIx (eVar 0) (eK (.int 1))) (eK (.int 1000003)))) (eVar 3)) (aNil))) (eK (.int 2147483629)))) (sRet (eOp2 dMod (eB (on1 dInt) (aCons (eOp2 dDiv (eOp2 dMod (eB (on1 dInt) (aCons (eOp2 dAdd (eOp2 dMul (eVar 4) (eK (.int 48271))) (eVar 2)) (aNil))) (eK (.int 2147483587))) (eK (.int 64))) (aNil))) (eVar 1))))))))
/-- the urn's three numbers; k more draws are free -/
structure Urn (k : Nat) (a b c : Int) : Prop where
  a0 : 0 ≤ a
  b0 : 0 ≤ b
  b1 : b < 2 ^ 63
  c0 : 0 ≤ c
  c1 : c + k ≤ 1000000000
abbrev urn (io lk : Bool) (a b c : Int) : Slot := .own io lk (.lst [.int a, .int b, .int c])
theorem log2_le {x : Int} {n : Nat} (h0 : 0 ≤ x) (h : x < 2 ^ n) (hn : 0 < n) : x.natAbs.log2 < n := by
  apply Flt.log2_lt_of hn
  have e : ((x.natAbs : Nat) : Int) = x := Int.natAbs_of_nonneg h0
  have : ((x.natAbs : Nat) : Int) < ((2 ^ n : Nat) : Int) := by rw [e]; simpa using h
  exact Int.ofNat_lt.mp this
theorem take_ok {k : Nat} {a b c n : Int} (U : Urn (k + 1) a b c) (hn : 0 < n) (hn1 : n < 2 ^ 30) :
    ∃ r a' c', takeM [urn true false a b c, .val (.int n)] = .ok (.val (.int r)) [urn true false a' b c', .val (.int n)] ∧ 0 ≤ r ∧ r < n ∧ Urn k a' b c' := by
  obtain ⟨a0, b0, b1, c0, c1⟩ := U
  have hn0 : n ≠ 0 := by omega
  have l2 : n.natAbs.log2 < 9000 := Nat.lt_of_lt_of_le (log2_le (by omega) hn1 (by decide)) (by decide)
  by_cases h : a > 0
  · refine ⟨a.fmod n, a / n, c, ?_, Int.fmod_nonneg_of_pos _ hn, Int.fmod_lt_of_pos _ hn, ⟨Int.ediv_nonneg a0 (by omega), b0, b1, c0, by omega⟩⟩
    have q : decide (0 < a) = true := by simpa using h
    simp [takeM, bodyF, sNx, sSeq, sIf, sSet, sSub, sRet, bnd, Ev.ret, lift, pin, eVar, eK, eOp2, eOp1, eB, aCons, aNil, ders, der, Cell.d, tBool, dGt, cmpBy, dIx, dMod, dDiv, dInt, on1, atI, ixN, outRV, st, stV, free1, esc, rtOf, backP, urn, hn0, l2, hn, q, h]
  · have ea : a = 0 := by omega
    subst ea
    have hb : b.natAbs.log2 < 63 := log2_le b0 b1 (by decide)
    have hc1 : (c + 1).natAbs.log2 < 30 := log2_le (by omega) (by omega) (by decide)
    have m1 : Nat.log2 48271 + (c + 1).natAbs.log2 ≤ 134000000 := by
      have : Nat.log2 48271 = 15 := by decide +kernel
      omega
    have p1 : (b + 48271 * (c + 1)).natAbs.log2 < 64 := log2_le (by omega) (by omega) (by decide)
    have p2 : (39373 + (c + 1)).natAbs.log2 < 31 := log2_le (by omega) (by omega) (by decide)
    have m2 : (b + 48271 * (c + 1)).natAbs.log2 + (39373 + (c + 1)).natAbs.log2 ≤ 134000000 := by omega
    obtain ⟨once, eo⟩ : ∃ x, x = ((b + 48271 * (c + 1)) * (39373 + (c + 1))).fmod 2147483647 := ⟨_, rfl⟩
    have o0 : 0 ≤ once := by rw [eo]; exact Int.fmod_nonneg_of_pos _ (by decide)
    have o1 : once < 2147483647 := by rw [eo]; exact Int.fmod_lt_of_pos _ (by decide)
    obtain ⟨far, ef⟩ : ∃ x, x = once.fmod 40009 + 7 := ⟨_, rfl⟩
    have f0 : 0 ≤ once.fmod 40009 := Int.fmod_nonneg_of_pos _ (by decide)
    have f1 : once.fmod 40009 < 40009 := Int.fmod_lt_of_pos _ (by decide)
    have d1 : Nat.log2 1000003 < 9000 := by decide +kernel
    have bq0 : 0 ≤ b / 1000003 := Int.ediv_nonneg b0 (by decide)
    have bq1 : b / 1000003 ≤ b := Int.ediv_le_self _ b0
    have p3 : (once + (c + 1) + b / 1000003).natAbs.log2 < 64 := log2_le (by omega) (by omega) (by decide)
    have p4 : far.natAbs.log2 < 20 := log2_le (by omega) (by omega) (by decide)
    have m3 : (once + (c + 1) + b / 1000003).natAbs.log2 + far.natAbs.log2 ≤ 134000000 := by omega
    obtain ⟨twice, et⟩ : ∃ x, x = ((once + (c + 1) + b / 1000003) * far).fmod 2147483629 := ⟨_, rfl⟩
    have t0 : 0 ≤ twice := by rw [et]; exact Int.fmod_nonneg_of_pos _ (by decide)
    have t1 : twice < 2147483629 := by rw [et]; exact Int.fmod_lt_of_pos _ (by decide)
    have p5 : twice.natAbs.log2 < 31 := log2_le t0 (by omega) (by decide)
    have m4 : twice.natAbs.log2 + Nat.log2 48271 ≤ 134000000 := by
      have : Nat.log2 48271 = 15 := by decide +kernel
      omega
    have d2 : Nat.log2 64 < 9000 := by decide +kernel
    refine ⟨((twice * 48271 + once).fmod 2147483587 / 64).fmod n, 0, c + 1, ?_, Int.fmod_nonneg_of_pos _ hn, Int.fmod_lt_of_pos _ hn, ⟨by omega, b0, b1, by omega, by omega⟩⟩
    simp [takeM, bodyF, sNx, sSeq, sIf, sSet, sSub, sRet, bnd, Ev.ret, lift, pin, eVar, eK, eOp2, eOp1, eB, aCons, aNil, ders, der, Cell.d, tBool, dGt, cmpBy, dIx, dMod, dDiv, dMul, dAdd, dInt, on1, atI, ixN, outRV, st, stV, free1, esc, rtOf, backP, urn, hn0, l2, hn, m1, m2, ← eo, ← ef, ← et, d1, m3, m4, d2]
/-- a class that is but named -/
structure NameOk (mg : Str → Option Value) (x : Str) (C : Addr) : Prop where
  gC : mg x = some (.ref C)
end Ev

set_option Elab.async false
set_option linter.all false
set_option maxRecDepth 100000
set_option maxHeartbeats 4000000
set_option autoImplicit false
/-! _law_mixed: what comes of it -/
namespace Ev
open PySem L2 PySem.Spec PyProof.Rows
def mixB (rec : Fn) : S := sSeq (sIf (tNotM (tTr (eIsG isLT (eVar 1)))) (sRet (eVar 1)) (sNx)) (sSeq (sSet 2 (eLc [3] (iSeq (eVar 1)) (bNm 3) (Ev.ret true) (eCallU rec 0 (aCons (eVar 0) (aCons (eVar 3) (aNil)))))) (sRet (eIf (tBool (eOp2 dEq (eCallU takeM 0 (aCons (eVar 0) (aCons (eK (.int 2)) (aNil)))) (eK (.int 0)))) (eVar 2) (eB (on1 dTuple) (aCons (eVar 2) (aNil))))))
def mixM : Nat → Fn
  | 0 => fun _ => .bad
  | n + 1 => bodyF 2 (mixB (mixM n))
/-- what a thing may become by mixing lists and tuples -/
inductive Sh where
  | leaf (d : D) | node (xs : List Sh)
mutual
/-- a shape's readings -/
def vars : Sh → List D
  | .leaf d => [d]
  | .node xs => (varsL xs).flatMap fun ds => [.list ds, .tuple ds]
def varsL : List Sh → List (List D)
  | [] => [[]]
  | x :: xs => (vars x).flatMap fun d => (varsL xs).map fun ds => d :: ds
end
mutual
/-- the reading by tuples alone -/
def tupS : Sh → D
  | .leaf d => d
  | .node xs => .tuple (tupL xs)
def tupL : List Sh → List D
  | [] => []
  | x :: xs => tupS x :: tupL xs
end
mutual
/-- .. with leaves that are ints, depth below n -/
def shOk : Nat → Sh → Bool
  | 0, _ => false
  | _ + 1, .leaf d => isI d
  | n + 1, .node xs => decide (xs.length ≤ 1000) && shOks n xs
def shOks : Nat → List Sh → Bool
  | _, [] => true
  | n, x :: xs => shOk n x && shOks n xs
end
mutual
def cntS : Sh → Nat
  | .leaf _ => 0
  | .node xs => cntL xs + 1
def cntL : List Sh → Nat
  | [] => 0
  | x :: xs => cntS x + cntL xs
end
def rtD : Rt → Option D
  | .val d => some d
  | .tmp (.lst ds) => some (.list ds)
  | .tmp (.dic _) => none
theorem dEq_int {a b : Int} : dEq (.int a) (.int b) = some (.sol (.bool (a == b))) := by
  have h : ∀ x : Int, (PyData.int x).canLay0 = true ∧ (PyData.int x).depth ≤ 64 := fun x => ⟨rfl, by simp [PyData.depth]⟩
  simp [dEq, noDict, SeqAt.shaped, PyData.eqv, h]
theorem mem_vars {xs : List Sh} {d : D} (h : d ∈ vars (.node xs)) : ∃ ds, ds ∈ varsL xs ∧ (d = .list ds ∨ d = .tuple ds) := by
  rw [vars, List.mem_flatMap] at h
  obtain ⟨ds, h1, h2⟩ := h
  refine ⟨ds, h1, ?_⟩
  simpa using h2
theorem vars_mem {xs : List Sh} {ds : List D} (h : ds ∈ varsL xs) : PyData.list ds ∈ vars (.node xs) ∧ PyData.tuple ds ∈ vars (.node xs) := by
  rw [vars, List.mem_flatMap, List.mem_flatMap]
  exact ⟨⟨ds, h, by simp⟩, ⟨ds, h, by simp⟩⟩
theorem mem_varsL {x : Sh} {xs : List Sh} {l : List D} (h : l ∈ varsL (x :: xs)) : ∃ d ds, d ∈ vars x ∧ ds ∈ varsL xs ∧ l = d :: ds := by
  rw [varsL, List.mem_flatMap] at h
  obtain ⟨d, h1, h2⟩ := h
  obtain ⟨ds, h3, rfl⟩ := List.mem_map.mp h2
  exact ⟨d, ds, h1, h3, rfl⟩
theorem varsL_mem {x : Sh} {xs : List Sh} {d : D} {ds : List D} (h : d ∈ vars x) (k : ds ∈ varsL xs) : (d :: ds) ∈ varsL (x :: xs) := by
  rw [varsL, List.mem_flatMap]
  exact ⟨d, h, List.mem_map.mpr ⟨ds, k, rfl⟩⟩
theorem varsL_len {ds : List D} : ∀ {xs : List Sh}, ds ∈ varsL xs → ds.length = xs.length
  | [], h => by rw [varsL] at h; simp at h; subst h; rfl
  | x :: xs, h => by
    obtain ⟨d, ds', _, h2, rfl⟩ := mem_varsL h
    rw [List.length_cons, List.length_cons, varsL_len h2]
theorem Urn.less {k j : Nat} {a b c : Int} (U : Urn k a b c) (h : j ≤ k) : Urn j a b c := ⟨U.a0, U.b0, U.b1, U.c0, by have := U.c1; omega⟩
/-- the promise of _law_mixed on one shape -/
def MixOk (F : Fn) (sh : Sh) : Prop := ∀ (d : D) (k : Nat) (a b c : Int), d ∈ vars sh → Urn (k + cntS sh) a b c → ∃ r m a' c', F [urn true false a b c, .val d] = .ok r [urn true false a' b c', .val d] ∧ rtD r = some m ∧ m ∈ vars sh ∧ Urn k a' b c'
theorem mix_list {F : Fn} {X : D} {b : Int} : ∀ {xs : List Sh} {ds : List D} {k : Nat} {a c : Int}, (∀ x ∈ xs, MixOk F x) → ds ∈ varsL xs → Urn (k + cntL xs) a b c →
    ∃ ms a' c', lcL [3] (bNm 3) (Ev.ret true) (eCallU F 0 (aCons (eVar 0) (aCons (eVar 3) aNil))) ds [urn true false a b c, .val X, .un, .un] = .ok ms [urn true false a' b c', .val X, .un, .un] ∧ ms ∈ varsL xs ∧ Urn k a' b c'
  | [], ds, k, a, c, _, hd, U => by
    rw [varsL] at hd
    simp at hd
    subst hd
    exact ⟨[], a, c, rfl, by rw [varsL]; simp, U⟩
  | x :: xs, l, k, a, c, h, hd, U => by
    obtain ⟨d, ds, h1, h2, rfl⟩ := mem_varsL hd
    rw [cntL] at U
    obtain ⟨r, m, a1, c1, e1, e2, e3, U1⟩ := h x List.mem_cons_self d (k + cntL xs) a b c h1 (by rw [show k + (cntS x + cntL xs) = k + cntL xs + cntS x by omega] at U; exact U)
    obtain ⟨ms, a2, c2, e4, e5, U2⟩ := mix_list (X := X) (fun y hy => h y (List.mem_cons_of_mem _ hy)) h2 U1
    refine ⟨m :: ms, a2, c2, ?_, varsL_mem e3 e5, U2⟩
    have e : (bnd (eCallU F 0 (aCons (eVar 0) (aCons (eVar 3) aNil))) esc) [urn true false a b c, .val X, .un, .val d] = .ok m [urn true false a1 b c1, .val X, .un, .val d] := by
      cases r with
      | val q =>
        cases e2
        simp [eCallU, bnd, aCons, aNil, eVar, lift, pin, Ev.ret, escs, esc, callU, e1, Rt.rv]
      | tmp q =>
        cases q with
        | dic => cases e2
        | lst q =>
          cases e2
          simp [eCallU, bnd, aCons, aNil, eVar, lift, pin, Ev.ret, escs, esc, callU, e1, Rt.rv]
    have b3 : bNm 3 d [urn true false a b c, .val X, .un, .un] = some [urn true false a b c, .val X, .un, .val d] := rfl
    have w : onS toUn [3] [urn true false a1 b c1, .val X, .un, .val d] = [urn true false a1 b c1, .val X, .un, .un] := rfl
    unfold lcL
    rw [b3]
    simp only [Ev.ret]
    rw [e]
    simp only
    rw [w]
    rw [e4]
theorem shOks_mem {n : Nat} : ∀ {xs : List Sh} {x : Sh}, shOks n xs = true → x ∈ xs → shOk n x = true
  | y :: ys, x, h, hx => by
    rw [shOks, Bool.and_eq_true] at h
    rcases List.mem_cons.mp hx with rfl | hx
    · exact h.1
    · exact shOks_mem h.2 hx
theorem mix_ok : ∀ {n : Nat} {sh : Sh}, shOk n sh = true → MixOk (mixM n) sh
  | 0, sh, h => by cases sh <;> simp [shOk] at h
  | n + 1, .leaf d0, h => by
    intro d k a b c hd U
    rw [shOk] at h
    obtain ⟨i, rfl⟩ := isI_int h
    rw [vars, List.mem_singleton] at hd
    subst hd
    refine ⟨.val (.int i), .int i, a, c, ?_, rfl, by rw [vars]; simp, U.less (Nat.le_add_right _ _)⟩
    simp [mixM, bodyF, mixB, sNx, sSeq, sIf, sRet, bnd, Ev.ret, lift, pin, eVar, der, tNotM, tTr, truR, truD, eIsG, isLT, ofB, outRV, rtOf, backP, urn]
  | n + 1, .node xs, h => by
    intro d k a b c hd U
    rw [shOk, Bool.and_eq_true] at h
    obtain ⟨hw, h⟩ := h
    have hw : xs.length ≤ 1000 := by simpa using hw
    obtain ⟨ds, h1, h2⟩ := mem_vars hd
    rw [cntS] at U
    obtain ⟨ms, a1, c1, e1, m1, U1⟩ := mix_list (F := mixM n) (X := d) (k := k + 1) (fun x hx => mix_ok (shOks_mem h hx)) h1 (by rw [show k + (cntL xs + 1) = k + 1 + cntL xs by omega] at U; exact U)
    obtain ⟨r, a2, c2, e2, r0, r1, U2⟩ := take_ok (n := 2) U1 (by decide) (by decide)
    have hlen : ds.length = ms.length := by rw [varsL_len h1, varsL_len m1]
    have isl : isLT d = ofB true := by rcases h2 with rfl | rfl <;> rfl
    have sq : seqOf [urn true false a b c, .val d, .un, .un] (.val d) = some (match d with | .list _ => true | _ => false, ds, []) := by rcases h2 with rfl | rfl <;> rfl
    by_cases hl : ds.length ≤ lim
    · have comp : eLc [3] (iSeq (eVar 1)) (bNm 3) (Ev.ret true) (eCallU (mixM n) 0 (aCons (eVar 0) (aCons (eVar 3) aNil))) [urn true false a b c, .val d, .un, .un] = .ok (.tmp (.lst ms)) [urn true false a1 b c1, .val d, .un, .un] := by
        unfold eLc
        have src : iSeq (eVar 1) [urn true false a b c, .val d, .un, .un] = .ok ⟨ds, []⟩ [urn true false a b c, .val d, .un, .un] := by
          have v : eVar 1 [urn true false a b c, .val d, .un, .un] = .ok (.val d) [urn true false a b c, .val d, .un, .un] := rfl
          unfold iSeq bnd
          rw [v]
          simp only [pin, lift, sq]
        unfold bnd
        rw [src]
        have ok : vsOk [3] [urn true false a b c, .val d, .un, .un] = true := rfl
        simp only [ok, hl, and_self, if_true]
        have w : onS toUn [3] (onS lk1 [] [urn true false a b c, .val d, .un, .un]) = [urn true false a b c, .val d, .un, .un] := rfl
        rw [w, e1]
        rfl
      have tk : ∀ (S2 : Slot), tBool (eOp2 dEq (eCallU takeM 0 (aCons (eVar 0) (aCons (eK (.int 2)) aNil))) (eK (.int 0))) [urn true false a1 b c1, .val d, S2, .un] = .ok (r == 0) [urn true false a2 b c2, .val d, S2, .un] := fun S2 => by
        simp [bnd, Ev.ret, lift, pin, eVar, eK, eOp2, der, tBool, outRV, eCallU, aCons, aNil, escs, esc, callU, e2, dEq_int, Rt.rv]
      have fin : mixM (n + 1) [urn true false a b c, .val d] = .ok (if (r == 0) = true then Rt.tmp (.lst ms) else Rt.val (.tuple ms)) [urn true false a2 b c2, .val d] := by
        unfold mixM bodyF mixB
        generalize hT : tBool (eOp2 dEq (eCallU takeM 0 (aCons (eVar 0) (aCons (eK (.int 2)) aNil))) (eK (.int 0))) = T at tk ⊢
        generalize hC : eLc [3] (iSeq (eVar 1)) (bNm 3) (Ev.ret true) (eCallU (mixM n) 0 (aCons (eVar 0) (aCons (eVar 3) aNil))) = C at comp ⊢
        have tk' := tk (.own false false (.lst ms))
        cases q : (r == 0) with
        | true =>
          rw [q] at tk'
          simp [sNx, sSeq, sIf, sSet, sRet, bnd, Ev.ret, lift, pin, eVar, eIf, der, tNotM, tTr, truR, truD, eIsG, isl, ofB, outRV, st, stT, free1, rtOf, backP, comp, tk']
        | false =>
          rw [q] at tk'
          simp [sNx, sSeq, sIf, sSet, sRet, bnd, Ev.ret, lift, pin, eVar, eIf, eB, aCons, aNil, ders, der, Cell.d, tNotM, tTr, truR, truD, eIsG, isl, ofB, outRV, st, stT, free1, rtOf, backP, comp, tk', on1, dTuple]
      obtain ⟨v1, v2⟩ := vars_mem m1
      cases q : (r == 0) with
      | true => rw [q] at fin; exact ⟨_, _, a2, c2, fin, rfl, v1, U2⟩
      | false => rw [q] at fin; exact ⟨_, _, a2, c2, fin, rfl, v2, U2⟩
    · exact absurd (by rw [varsL_len h1]; exact Nat.le_trans hw (by decide)) hl
end Ev

set_option Elab.async false
set_option linter.all false
set_option maxRecDepth 100000
set_option maxHeartbeats 4000000
set_option autoImplicit false
/-! a law's body, run once in the kernel: the urn is hidden, every mixing is tried in all its readings -/
namespace Ev
open PySem L2 PySem.Spec PyProof.Rows
def Us (bb : Bool) (k : Nat) (u : Slot) : Prop := bb = true → ∃ a b c, u = urn false false a b c ∧ Urn k a b c
theorem Us.less {bb : Bool} {k j : Nat} {u : Slot} (h : Us bb k u) (l : j ≤ k) : Us bb j u := fun hb => by
  obtain ⟨a, b, c, e, U⟩ := h hb
  exact ⟨a, b, c, e, U.less l⟩
/-- the run in hand (three slots hidden) tells the true run; m draws at most -/
def Ref {α : Type} (bb : Bool) (m : Nat) (f f' : M α) : Prop := ∀ rest a ρ', f' (.un :: .un :: .un :: rest) = .ok a ρ' → ∃ rest', ρ' = .un :: .un :: .un :: rest' ∧ ∀ s0 s1 u k, Us bb (k + m) u → ∃ u', f (s0 :: s1 :: u :: rest) = .ok a (s0 :: s1 :: u' :: rest') ∧ Us bb k u'
section
variable {α β : Type} {bb : Bool} {m n : Nat} {f f' : M α}
theorem ref_of {f : M α} (h : ∀ rest a ρ', f (.un :: .un :: .un :: rest) = .ok a ρ' → ∃ rest', ρ' = .un :: .un :: .un :: rest' ∧ ∀ s0 s1 u, f (s0 :: s1 :: u :: rest) = .ok a (s0 :: s1 :: u :: rest')) : Ref bb 0 f f := fun rest a ρ' e => by
  obtain ⟨r, e1, k⟩ := h rest a ρ' e
  exact ⟨r, e1, fun s0 s1 u j U => ⟨u, k s0 s1 u, U⟩⟩
theorem Ref.le (h : Ref bb m f f') (l : m ≤ n) : Ref bb n f f' := fun rest a ρ' e => by
  obtain ⟨r, e1, k⟩ := h rest a ρ' e
  exact ⟨r, e1, fun s0 s1 u j U => k s0 s1 u j (U.less (by omega))⟩
theorem ref_ret (a : α) : Ref bb 0 (Ev.ret a) (Ev.ret a) := ref_of fun rest b ρ' e => by
  cases e
  exact ⟨rest, rfl, fun _ _ _ => rfl⟩
theorem ref_bad : Ref bb 0 (fun _ => .bad : M α) (fun _ => .bad) := fun rest a ρ' e => by cases e
theorem ref_bnd {g g' : α → M β} (h : Ref bb m f f') (k : ∀ a, Ref bb n (g a) (g' a)) : Ref bb (m + n) (bnd f g) (bnd f' g') := fun rest b ρ' e => by
  unfold bnd at e
  cases q : f' (.un :: .un :: .un :: rest) with
  | bad => rw [q] at e; cases e
  | exc x ρ1 => rw [q] at e; cases e
  | ok a ρ1 =>
    rw [q] at e
    obtain ⟨r1, rfl, k1⟩ := h rest a ρ1 q
    obtain ⟨r2, rfl, k2⟩ := k a r1 b ρ' e
    refine ⟨r2, rfl, fun s0 s1 u j U => ?_⟩
    obtain ⟨u1, e1, U1⟩ := k1 s0 s1 u (j + n) (by rw [show j + n + m = j + (m + n) by omega]; exact U)
    obtain ⟨u2, e2, U2⟩ := k2 s0 s1 u1 j U1
    refine ⟨u2, ?_, U2⟩
    unfold bnd
    rw [e1]
    exact e2
theorem ref_lift (o : Option α) : Ref bb 0 (lift o) (lift o) := by
  cases o with
  | none => exact ref_bad
  | some a => exact ref_ret a
theorem get_un {rest : Rho} {i : Nat} {s : Slot} (h : (Slot.un :: .un :: .un :: rest)[i]? = some s) (ne : s ≠ .un) : ∀ s0 s1 u, (s0 :: s1 :: u :: rest : Rho)[i]? = some s := by
  match i with
  | 0 => cases h; exact absurd rfl ne
  | 1 => cases h; exact absurd rfl ne
  | 2 => cases h; exact absurd rfl ne
  | i + 3 => exact fun _ _ _ => h
theorem set_un {rest : Rho} {i : Nat} {s : Slot} (h : (Slot.un :: .un :: .un :: rest)[i]? = some s) (ne : s ≠ .un) (t : Slot) : ∃ r, (Slot.un :: .un :: .un :: rest).set i t = .un :: .un :: .un :: r ∧ ∀ s0 s1 u, (s0 :: s1 :: u :: rest : Rho).set i t = s0 :: s1 :: u :: r := by
  match i with
  | 0 => cases h; exact absurd rfl ne
  | 1 => cases h; exact absurd rfl ne
  | 2 => cases h; exact absurd rfl ne
  | i + 3 => exact ⟨_, rfl, fun _ _ _ => rfl⟩
theorem der_un {rest : Rho} {r : RV} {d : D} (h : der (.un :: .un :: .un :: rest) r = some d) (s0 s1 u : Slot) : der (s0 :: s1 :: u :: rest) r = some d := by
  cases r with
  | val e => exact h
  | tmp c => exact h
  | bor i =>
    simp only [der] at h ⊢
    cases q : (Slot.un :: .un :: .un :: rest)[i]? with
    | none => rw [q] at h; cases h
    | some s =>
      rw [q] at h
      cases s with
      | un => cases h
      | val e => rw [get_un q (by simp)]; exact h
      | own io lk c => rw [get_un q (by simp)]; exact h
theorem ders_un {rest : Rho} : ∀ {rs : List RV} {ds : List D}, ders (.un :: .un :: .un :: rest) rs = some ds → ∀ s0 s1 u, ders (s0 :: s1 :: u :: rest) rs = some ds
  | [], _, h, _, _, _ => h
  | r :: rs, ds, h, s0, s1, u => by
    simp only [ders] at h ⊢
    cases q : der (.un :: .un :: .un :: rest) r with
    | none => simp [q] at h
    | some d =>
      cases q1 : ders (.un :: .un :: .un :: rest) rs with
      | none => simp [q, q1] at h
      | some es =>
        rw [q, q1] at h
        rw [der_un q, ders_un q1]
        exact h
/-- what only looks -/
theorem ref_ask {γ : Type} {q : Rho → Option γ} {h : γ → Option α} {g : M α} (hq : ∀ rest x, q (.un :: .un :: .un :: rest) = some x → ∀ s0 s1 u, q (s0 :: s1 :: u :: rest) = some x)
    (hg : ∀ ρ, g ρ = match q ρ with | some x => (match h x with | some a => .ok a ρ | none => .bad) | none => .bad) : Ref bb 0 g g := ref_of fun rest a ρ' e => by
  rw [hg] at e
  cases k : q (.un :: .un :: .un :: rest) with
  | none => rw [k] at e; cases e
  | some x =>
    rw [k] at e
    cases k1 : h x with
    | none => simp only [k1] at e; cases e
    | some y =>
      simp only [k1] at e
      cases e
      exact ⟨rest, rfl, fun s0 s1 u => by rw [hg, hq rest x k]; simp only [k1]⟩
theorem ref_K (d : D) : Ref bb 0 (eK d) (eK d) := ref_ret _
theorem ref_var (i : Nat) : Ref bb 0 (eVar i) (eVar i) := ref_of fun rest a ρ' e => by
  unfold eVar at e
  cases q : (Slot.un :: .un :: .un :: rest)[i]? with
  | none => rw [q] at e; cases e
  | some s =>
    rw [q] at e
    cases s with
    | un => cases e
    | val d => cases e; exact ⟨rest, rfl, fun s0 s1 u => by unfold eVar; rw [get_un q (by simp)]⟩
    | own io lk c => cases e; exact ⟨rest, rfl, fun s0 s1 u => by unfold eVar; rw [get_un q (by simp)]⟩
theorem ref_op2 {g : D → D → Option RR} {f f' h h' : M RV} (a : Ref bb m f f') (b : Ref bb n h h') : Ref bb (m + (0 + (n + 0))) (eOp2 g f h) (eOp2 g f' h') := ref_bnd a fun x => ref_bnd (ref_lift _) fun x => ref_bnd b fun y =>
  ref_ask (q := fun ρ => match der ρ x, der ρ y with | some p, some q => some (p, q) | _, _ => none) (h := fun z => (g z.1 z.2).map outRV) (fun rest z e s0 s1 u => by
    cases q : der (.un :: .un :: .un :: rest) x with
    | none => simp [q] at e
    | some p =>
      cases q1 : der (.un :: .un :: .un :: rest) y with
      | none => simp [q, q1] at e
      | some r => simp only [q, q1] at e; simp only [der_un q, der_un q1]; exact e) fun ρ => by
    cases der ρ x with
    | none => rfl
    | some p =>
      cases der ρ y with
      | none => rfl
      | some r => cases q : g p r <;> simp [q]
theorem ref_nil : Ref bb 0 aNil aNil := ref_ret _
theorem ref_cons {f f' : M RV} {r r' : M (List RV)} (a : Ref bb m f f') (b : Ref bb n r r') : Ref bb (m + (0 + (n + 0))) (aCons f r) (aCons f' r') := ref_bnd a fun x => ref_bnd (ref_lift _) fun x => ref_bnd b fun y => ref_ret _
theorem ref_B {g : List D → Option RR} {as as' : M (List RV)} (a : Ref bb m as as') : Ref bb (m + 0) (eB g as) (eB g as') := ref_bnd a fun rs => ref_ask (q := fun ρ => ders ρ rs) (h := fun ds => (g ds).map outRV) (fun rest x e => ders_un e) fun ρ => by
  cases ders ρ rs with
  | none => rfl
  | some ds => cases q : g ds <;> simp [q]
theorem ref_esc (rv : RV) : Ref bb 0 (esc rv) (esc rv) := by
  cases rv with
  | val d => exact ref_ret d
  | tmp c =>
    cases c with
    | lst ds => exact ref_ret _
    | dic kvs => exact ref_bad
  | bor i =>
    refine ref_of fun rest a ρ' e => ?_
    unfold esc at e
    cases q : (Slot.un :: .un :: .un :: rest)[i]? with
    | none => simp only [q] at e; cases e
    | some s =>
      simp only [q] at e
      split at e
      · rename_i z; cases z; cases e; exact ⟨rest, rfl, fun s0 s1 u => by simp only [esc, get_un q (by simp)]⟩
      · rename_i ds z
        cases z
        cases e
        obtain ⟨r, e1, e2⟩ := set_un q (by simp) (.val (.list ds))
        exact ⟨r, e1, fun s0 s1 u => by simp only [esc, get_un q (by simp), e2]⟩
      · cases e
theorem ref_escs : ∀ rs : List RV, Ref bb 0 (escs rs) (escs rs)
  | [] => ref_ret _
  | r :: rs => ref_bnd (ref_esc r) fun d => ref_bnd (ref_escs rs) fun ds => ref_ret _
theorem ref_tup {as as' : M (List RV)} (a : Ref bb m as as') : Ref bb (m + (0 + 0)) (eTup as) (eTup as') := ref_bnd a fun rs => ref_bnd (ref_escs rs) fun ds => ref_of fun rest a ρ' e => by
  by_cases l : ds.length ≤ lim
  · simp only [if_pos l] at e ⊢; cases e; exact ⟨rest, rfl, fun _ _ _ => rfl⟩
  · simp only [if_neg l] at e; cases e
theorem ref_lst {as as' : M (List RV)} (a : Ref bb m as as') : Ref bb (m + (0 + 0)) (eLst as) (eLst as') := ref_bnd a fun rs => ref_bnd (ref_escs rs) fun ds => ref_of fun rest a ρ' e => by
  by_cases l : ds.length ≤ lim
  · simp only [if_pos l] at e ⊢; cases e; exact ⟨rest, rfl, fun _ _ _ => rfl⟩
  · simp only [if_neg l] at e; cases e
theorem ref_call {F : Fn} {as as' : M (List RV)} (a : Ref bb m as as') : Ref bb (m + (0 + 0)) (eCall F as) (eCall F as') := ref_bnd a fun rs => ref_bnd (ref_escs rs) fun ds => ref_of fun rest a ρ' e => by
  cases q : F (ds.map .val) with
  | bad => rw [q] at e; cases e
  | exc x ρ1 => rw [q] at e; cases e
  | ok r ρ1 => rw [q] at e; cases e; exact ⟨rest, rfl, fun _ _ _ => rfl⟩
theorem ref_tTr {f f' : M RV} (a : Ref bb m f f') : Ref bb (m + 0) (tTr f) (tTr f') := ref_bnd a fun x => ref_ask (q := fun ρ => truR ρ x) (h := some) (fun rest b e s0 s1 u => by
    unfold truR at e ⊢
    cases q : der (.un :: .un :: .un :: rest) x with
    | none => rw [q] at e; cases e
    | some d => rw [q] at e; rw [der_un q]; exact e) fun ρ => by cases truR ρ x <;> rfl
theorem ref_tBool {f f' : M RV} (a : Ref bb m f f') : Ref bb (m + 0) (tBool f) (tBool f') := ref_bnd a fun x => ref_ask (q := fun ρ => der ρ x) (h := fun d => match d with | .bool k => some k | _ => none) (fun rest b e => der_un e) fun ρ => by
  cases der ρ x with
  | none => rfl
  | some d => cases d <;> rfl
theorem ref_not {f f' : M Bool} (a : Ref bb m f f') : Ref bb (m + 0) (tNotM f) (tNotM f') := ref_bnd a fun x => ref_ret _
theorem ref_tOr {f f' g g' : M Bool} (a : Ref bb m f f') (b : Ref bb n g g') : Ref bb (m + n) (tOrM f g) (tOrM f' g') := ref_bnd a fun x => by
  cases x with
  | true => exact (ref_ret true).le (Nat.zero_le _)
  | false => exact b
theorem ref_tAnd {f f' g g' : M Bool} (a : Ref bb m f f') (b : Ref bb n g g') : Ref bb (m + n) (tAndM f g) (tAndM f' g') := ref_bnd a fun x => by
  cases x with
  | false => exact (ref_ret false).le (Nat.zero_le _)
  | true => exact b
theorem ref_ifE {j : Nat} {t t' : M Bool} {f f' g g' : M α} (a : Ref bb m t t') (b : Ref bb n f f') (c : Ref bb j g g') : Ref bb (m + (n + j)) (bnd t fun b => if b = true then f else g) (bnd t' fun b => if b = true then f' else g') := ref_bnd a fun x => by
  cases x with
  | true => exact b.le (by omega)
  | false => exact c.le (by omega)
theorem ref_eIf {j : Nat} {t t' : M Bool} {f f' g g' : M RV} (a : Ref bb m t t') (b : Ref bb n f f') (c : Ref bb j g g') : Ref bb (m + (n + j)) (eIf t f g) (eIf t' f' g') := ref_ifE a b c
theorem ref_sIf {j : Nat} {t t' : M Bool} {f f' g g' : S} (a : Ref bb m t t') (b : Ref bb n f f') (c : Ref bb j g g') : Ref bb (m + (n + j)) (sIf t f g) (sIf t' f' g') := ref_ifE a b c
theorem ref_nx : Ref bb 0 sNx sNx := ref_ret _
theorem ref_seq {f f' g g' : S} (a : Ref bb m f f') (b : Ref bb n g g') : Ref bb (m + n) (sSeq f g) (sSeq f' g') := fun rest x ρ' e => by
  unfold sSeq at e
  cases q : f' (.un :: .un :: .un :: rest) with
  | bad => rw [q] at e; cases e
  | exc y ρ1 => rw [q] at e; cases e
  | ok fl ρ1 =>
    rw [q] at e
    obtain ⟨r1, rfl, k1⟩ := a rest fl ρ1 q
    cases fl with
    | nx =>
      obtain ⟨r2, rfl, k2⟩ := b r1 x ρ' e
      refine ⟨r2, rfl, fun s0 s1 u j U => ?_⟩
      obtain ⟨u1, e1, U1⟩ := k1 s0 s1 u (j + n) (by rw [show j + n + m = j + (m + n) by omega]; exact U)
      obtain ⟨u2, e2, U2⟩ := k2 s0 s1 u1 j U1
      exact ⟨u2, by unfold sSeq; rw [e1]; exact e2, U2⟩
    | ct | bk | rt r =>
      cases e
      refine ⟨r1, rfl, fun s0 s1 u j U => ?_⟩
      obtain ⟨u1, e1, U1⟩ := k1 s0 s1 u j (U.less (by omega))
      exact ⟨u1, by unfold sSeq; rw [e1], U1⟩
theorem ref_stV {i : Nat} (hi : 3 ≤ i) (d : D) : Ref bb 0 (stV i d) (stV i d) := ref_of fun rest a ρ' e => by
  obtain ⟨j, rfl⟩ : ∃ j, i = j + 3 := ⟨i - 3, by omega⟩
  have g : ∀ s0 s1 u : Slot, (s0 :: s1 :: u :: rest)[j + 3]? = rest[j]? := fun _ _ _ => rfl
  simp only [stV, g] at e ⊢
  cases q : rest[j]? with
  | none => rw [q] at e; cases e
  | some s =>
    simp only [q] at e ⊢
    by_cases fr : free1 s = true
    · simp only [if_pos fr] at e ⊢
      cases e
      exact ⟨_, rfl, fun _ _ _ => rfl⟩
    · simp only [if_neg fr] at e; cases e
theorem ref_stT {i : Nat} (hi : 3 ≤ i) (c : Cell) : Ref bb 0 (stT i c) (stT i c) := ref_of fun rest a ρ' e => by
  obtain ⟨j, rfl⟩ : ∃ j, i = j + 3 := ⟨i - 3, by omega⟩
  have g : ∀ s0 s1 u : Slot, (s0 :: s1 :: u :: rest)[j + 3]? = rest[j]? := fun _ _ _ => rfl
  simp only [stT, g] at e ⊢
  cases q : rest[j]? with
  | none => rw [q] at e; cases e
  | some s =>
    simp only [q] at e ⊢
    by_cases fr : free1 s = true
    · simp only [if_pos fr] at e ⊢
      cases e
      exact ⟨_, rfl, fun _ _ _ => rfl⟩
    · simp only [if_neg fr] at e; cases e
theorem ref_st {i : Nat} (hi : 3 ≤ i) (rv : RV) : Ref bb 0 (st i rv) (st i rv) := by
  cases rv with
  | tmp c => exact ref_stT hi c
  | val d => exact (ref_bnd (ref_esc (.val d)) (fun e => ref_stV hi e) : Ref bb (0 + 0) (bnd (esc (.val d)) (stV i)) (bnd (esc (.val d)) (stV i)))
  | bor j => exact (ref_bnd (ref_esc (.bor j)) (fun e => ref_stV hi e) : Ref bb (0 + 0) (bnd (esc (.bor j)) (stV i)) (bnd (esc (.bor j)) (stV i)))
theorem ref_set {i : Nat} {f f' : M RV} (a : Ref bb m f f') (hi : 3 ≤ i) : Ref bb (m + (0 + 0)) (sSet i f) (sSet i f') := ref_bnd a fun x => ref_bnd (ref_st hi x) fun _ => ref_ret _
theorem ref_rtOf (rv : RV) : Ref bb 0 (rtOf rv) (rtOf rv) := by
  cases rv with
  | val d => exact ref_ret _
  | tmp c => exact ref_ret _
  | bor i =>
    refine ref_of fun rest a ρ' e => ?_
    unfold rtOf at e
    cases q : (Slot.un :: .un :: .un :: rest)[i]? with
    | none => simp only [q] at e; cases e
    | some s =>
      simp only [q] at e
      split at e
      · rename_i z; cases z; cases e; exact ⟨rest, rfl, fun s0 s1 u => by simp only [rtOf, get_un q (by simp)]⟩
      · rename_i c z
        cases z
        cases e
        obtain ⟨r, e1, e2⟩ := set_un q (by simp) .un
        exact ⟨r, e1, fun s0 s1 u => by simp only [rtOf, get_un q (by simp), e2]⟩
      · cases e
theorem ref_sRet {f f' : M RV} (a : Ref bb m f f') : Ref bb (m + (0 + 0)) (sRet f) (sRet f') := ref_bnd a fun x => ref_bnd (ref_rtOf x) fun _ => ref_ret _
theorem ref_sPar {i j : Nat} {f f' g g' : M RV} (a : Ref bb m f f') (b : Ref bb n g g') (hi : 3 ≤ i) (hj : 3 ≤ j) : Ref bb (m + (n + 0)) (sPar i j f g) (sPar i j f' g') := ref_bnd a fun x => by
  have dat : ∀ rv : RV, Ref bb (n + 0) (bnd (esc rv) fun d => bnd g fun b => bnd (st j b) fun _ => bnd (stV i d) fun _ => Ev.ret Fl.nx) (bnd (esc rv) fun d => bnd g' fun b => bnd (st j b) fun _ => bnd (stV i d) fun _ => Ev.ret Fl.nx) := fun rv =>
    (ref_bnd (ref_esc rv) fun d => ref_bnd b fun y => ref_bnd (ref_st hj y) fun _ => ref_bnd (ref_stV hi d) fun _ => ref_ret Fl.nx).le (by omega)
  cases x with
  | tmp c => exact (ref_bnd b fun y => ref_bnd (ref_st hj y) fun _ => ref_bnd (ref_stT hi c) fun _ => ref_ret Fl.nx).le (by omega)
  | val d => exact dat _
  | bor k => exact dat _
end
end Ev

set_option Elab.async false
set_option linter.all false
set_option maxRecDepth 100000
set_option maxHeartbeats 4000000
set_option autoImplicit false
/-! .. loops, comprehensions, cuts, mixing -/
namespace Ev
open PySem L2 PySem.Spec PyProof.Rows
section
variable {α β : Type} {bb : Bool} {m n : Nat} {f f' : M α}
def BdOk (b : Bd) : Prop := ∀ d rest ρ', b d (.un :: .un :: .un :: rest) = some ρ' → ∃ r, ρ' = .un :: .un :: .un :: r ∧ ∀ s0 s1 u, b d (s0 :: s1 :: u :: rest) = some (s0 :: s1 :: u :: r)
theorem bd_nm {i : Nat} (hi : 3 ≤ i) : BdOk (bNm i) := fun d rest ρ' e => by
  obtain ⟨j, rfl⟩ : ∃ j, i = j + 3 := ⟨i - 3, by omega⟩
  have g : ∀ s0 s1 u : Slot, (s0 :: s1 :: u :: rest)[j + 3]? = rest[j]? := fun _ _ _ => rfl
  simp only [bNm, g] at e ⊢
  cases q : rest[j]? with
  | none => rw [q] at e; cases e
  | some s =>
    simp only [q] at e ⊢
    by_cases fr : free1 s = true
    · simp only [if_pos fr] at e ⊢
      cases e
      exact ⟨_, rfl, fun _ _ _ => rfl⟩
    · simp only [if_neg fr] at e; cases e
def BdsOk (bs : List Bd) : Prop := ∀ ds rest ρ', bAll bs ds (.un :: .un :: .un :: rest) = some ρ' → ∃ r, ρ' = .un :: .un :: .un :: r ∧ ∀ s0 s1 u, bAll bs ds (s0 :: s1 :: u :: rest) = some (s0 :: s1 :: u :: r)
theorem bds_nil : BdsOk [] := fun ds rest ρ' e => by
  cases ds with
  | nil => cases e; exact ⟨rest, rfl, fun _ _ _ => rfl⟩
  | cons => cases e
theorem bds_cons {b : Bd} {bs : List Bd} (h : BdOk b) (k : BdsOk bs) : BdsOk (b :: bs) := fun ds rest ρ' e => by
  cases ds with
  | nil => cases e
  | cons d ds =>
    simp only [bAll] at e ⊢
    cases q : b d (.un :: .un :: .un :: rest) with
    | none => rw [q] at e; cases e
    | some ρ1 =>
      rw [q] at e
      obtain ⟨r1, rfl, k1⟩ := h d rest ρ1 q
      obtain ⟨r2, rfl, k2⟩ := k ds r1 ρ' e
      exact ⟨r2, rfl, fun s0 s1 u => by rw [k1]; exact k2 s0 s1 u⟩
theorem bd_tp {bs : List Bd} (h : BdsOk bs) : BdOk (bTp bs) := fun d rest ρ' e => by
  cases d with
  | tuple ds => exact h ds rest ρ' e
  | list ds => exact h ds rest ρ' e
  | none | bool | int | str | dict => cases e
theorem ref_tgt {b : Bd} {f f' : M RV} (a : Ref bb m f f') (hb : BdOk b) : Ref bb (m + (0 + 0)) (sTgt b f) (sTgt b f') := ref_bnd a fun x => ref_bnd (ref_esc x) fun d => ref_of fun rest y ρ' e => by
  cases q : b d (.un :: .un :: .un :: rest) with
  | none => simp only [q] at e; cases e
  | some ρ1 =>
    simp only [q] at e
    obtain ⟨r, rfl, k⟩ := hb d rest ρ1 q
    cases e
    exact ⟨r, rfl, fun s0 s1 u => by simp only [k]⟩
theorem on_nil (g : Slot → Slot) (ρ : Rho) : onS g [] ρ = ρ := by
  apply List.ext_getElem?
  intro i
  rw [on_get]
  cases ρ[i]? <;> rfl
def vs3 (vs : List Nat) : Bool := vs.all fun v => decide (3 ≤ v)
theorem vs3_no {vs : List Nat} (h : vs3 vs = true) {i : Nat} (hi : i < 3) : vs.contains i = false := by
  cases q : vs.contains i with
  | false => rfl
  | true =>
    have := List.all_eq_true.mp h i (by simpa using q)
    have : 3 ≤ i := by simpa using this
    omega
theorem on_un (g : Slot → Slot) {vs : List Nat} (h : vs3 vs = true) (rest : Rho) : ∃ r, ∀ s0 s1 u, onS g vs (s0 :: s1 :: u :: rest) = s0 :: s1 :: u :: r := by
  refine ⟨rest.mapIdx fun i s => if vs.contains (i + 3) = true then g s else s, fun s0 s1 u => ?_⟩
  unfold onS
  simp only [List.mapIdx_cons]
  rw [vs3_no h (by decide : 0 < 3), vs3_no h (by decide : 0 + 1 < 3), vs3_no h (by decide : 0 + 1 + 1 < 3)]
  rfl
/-- for: no hidden slot is walked -/
def sForX (src : M Src) (b : Bd) (body : S) : S := bnd src fun s => if vs3 s.js = true ∧ s.items.length ≤ 100 then fun ρ => unl s.js (forL b body s.items (onS lk1 s.js ρ)) else fun _ => .bad
theorem ref_forL {b : Bd} {f f' : S} (hb : BdOk b) (a : Ref bb m f f') : ∀ ds, Ref bb (ds.length * m) (forL b f ds) (forL b f' ds)
  | [] => (ref_ret Fl.nx).le (Nat.zero_le _)
  | d :: ds => fun rest x ρ' e => by
    unfold forL at e
    cases q : b d (.un :: .un :: .un :: rest) with
    | none => rw [q] at e; cases e
    | some ρ1 =>
      simp only [q] at e
      obtain ⟨r1, rfl, k1⟩ := hb d rest ρ1 q
      cases q1 : f' (.un :: .un :: .un :: r1) with
      | bad => simp only [q1] at e; cases e
      | exc y ρ2 => simp only [q1] at e; cases e
      | ok fl ρ2 =>
        obtain ⟨r2, rfl, k2⟩ := a r1 fl ρ2 q1
        have len : (d :: ds).length * m = ds.length * m + m := by rw [List.length_cons, Nat.succ_mul]
        cases fl with
        | nx | ct =>
          simp only [q1] at e
          obtain ⟨r3, rfl, k3⟩ := ref_forL hb a ds r2 x ρ' e
          refine ⟨r3, rfl, fun s0 s1 u j U => ?_⟩
          obtain ⟨u1, e1, U1⟩ := k2 s0 s1 u (j + ds.length * m) (by rw [show j + ds.length * m + m = j + (d :: ds).length * m by omega]; exact U)
          obtain ⟨u2, e2, U2⟩ := k3 s0 s1 u1 j U1
          exact ⟨u2, by unfold forL; simp only [k1, e1, e2], U2⟩
        | bk | rt r =>
          simp only [q1] at e
          cases e
          refine ⟨r2, rfl, fun s0 s1 u j U => ?_⟩
          obtain ⟨u1, e1, U1⟩ := k2 s0 s1 u j (U.less (by omega))
          exact ⟨u1, by unfold forL; simp only [k1, e1], U1⟩
theorem unl_nil (r : Res Fl) : unl [] r = r := by
  cases r <;> simp [unl, on_nil]
theorem ref_unl {js : List Nat} {f f' : S} (h : vs3 js = true) (a : Ref bb m f f') : Ref bb m (fun ρ => unl js (f (onS lk1 js ρ))) (fun ρ => unl js (f' (onS lk1 js ρ))) := fun rest x ρ' e => by
  obtain ⟨r1, k1⟩ := on_un lk1 h rest
  simp only [k1] at e ⊢
  cases q : f' (.un :: .un :: .un :: r1) with
  | bad => rw [q] at e; cases e
  | exc y ρ2 => rw [q] at e; cases e
  | ok fl ρ2 =>
    rw [q] at e
    obtain ⟨r2, rfl, k2⟩ := a r1 fl ρ2 q
    obtain ⟨r3, k3⟩ := on_un ul1 h r2
    simp only [unl, k3] at e
    cases e
    refine ⟨r3, rfl, fun s0 s1 u j U => ?_⟩
    obtain ⟨u1, e1, U1⟩ := k2 s0 s1 u j U
    exact ⟨u1, by rw [e1]; simp only [unl, k3], U1⟩
theorem ref_for {src src' : M Src} {b : Bd} {f f' : S} (h : Ref bb n src src') (a : Ref bb m f f') (hb : BdOk b) : Ref bb (n + 100 * m) (sFor src b f) (sForX src' b f') := ref_bnd h fun s => by
  by_cases c : vs3 s.js = true ∧ s.items.length ≤ 100
  · rw [if_pos c]
    exact ref_unl c.1 ((ref_forL hb a s.items).le (Nat.mul_le_mul_right _ c.2))
  · rw [if_neg c]
    exact fun rest a ρ' e => by cases e
theorem back_un {vs : List Nat} (h : vs3 vs = true) (rest rest' : Rho) : ∃ r, ∀ s0 s1 u u', backS vs (s0 :: s1 :: u :: rest) (s0 :: s1 :: u' :: rest') = s0 :: s1 :: u' :: r := by
  refine ⟨rest'.mapIdx fun i s => if vs.contains (i + 3) = true then (rest[i]?.getD .un) else s, fun s0 s1 u u' => ?_⟩
  unfold backS
  simp only [List.mapIdx_cons]
  rw [vs3_no h (by decide : 0 < 3), vs3_no h (by decide : 0 + 1 < 3), vs3_no h (by decide : 0 + 1 + 1 < 3)]
  rfl
theorem vsOk_un {vs : List Nat} (h : vs3 vs = true) {rest : Rho} (k : vsOk vs (.un :: .un :: .un :: rest) = true) (s0 s1 u : Slot) : vsOk vs (s0 :: s1 :: u :: rest) = true := by
  unfold vsOk at k ⊢
  rw [List.all_eq_true] at k ⊢
  intro v hv
  have this := k v hv
  have h3 := List.all_eq_true.mp h v hv
  have h4 : 3 ≤ v := by simpa using h3
  obtain ⟨j, rfl⟩ : ∃ j, v = j + 3 := ⟨v - 3, by omega⟩
  exact this
def eLcX (vs : List Nat) (src : M Src) (b : Bd) (t : M Bool) (el : M RV) : M RV := bnd src fun s ρ =>
  if (vsOk vs ρ = true ∧ s.items.length ≤ 100) ∧ s.js = [] then (match lcL vs b t el s.items (onS toUn vs ρ) with
    | .ok ys ρ' => .ok (.tmp (.lst ys)) (backS vs ρ ρ')
    | _ => .bad) else .bad
theorem ref_lcL {vs : List Nat} {b : Bd} {t t' : M Bool} {el el' : M RV} (h3 : vs3 vs = true) (hb : BdOk b) (a : Ref bb m t t') (c : Ref bb n el el') : ∀ ds, Ref bb (ds.length * (m + n)) (lcL vs b t el ds) (lcL vs b t' el' ds)
  | [] => (ref_ret []).le (Nat.zero_le _)
  | d :: ds => fun rest x ρ' e => by
    have len : (d :: ds).length * (m + n) = ds.length * (m + n) + (m + n) := by rw [List.length_cons, Nat.succ_mul]
    unfold lcL at e
    cases q : b d (.un :: .un :: .un :: rest) with
    | none => rw [q] at e; cases e
    | some ρ1 =>
      simp only [q] at e
      obtain ⟨r1, rfl, k1⟩ := hb d rest ρ1 q
      cases q1 : t' (.un :: .un :: .un :: r1) with
      | bad => simp only [q1] at e; cases e
      | exc y ρ2 => simp only [q1] at e; cases e
      | ok bb ρ2 =>
        obtain ⟨r2, rfl, k2⟩ := a r1 bb ρ2 q1
        cases bb with
        | false =>
          simp only [q1] at e
          obtain ⟨ro, ko⟩ := on_un toUn h3 r2
          rw [ko] at e
          obtain ⟨r3, rfl, k3⟩ := ref_lcL h3 hb a c ds ro x ρ' e
          refine ⟨r3, rfl, fun s0 s1 u j U => ?_⟩
          obtain ⟨u1, e1, U1⟩ := k2 s0 s1 u (j + ds.length * (m + n)) (U.less (by omega))
          obtain ⟨u2, e2, U2⟩ := k3 s0 s1 u1 j U1
          exact ⟨u2, by unfold lcL; simp only [k1, e1, ko, e2], U2⟩
        | true =>
          simp only [q1] at e
          cases q2 : bnd el' esc (.un :: .un :: .un :: r2) with
          | bad => simp only [q2] at e; cases e
          | exc y ρ3 => simp only [q2] at e; cases e
          | ok y ρ3 =>
            simp only [q2] at e
            obtain ⟨r3, rfl, k3⟩ := (ref_bnd c fun rv => ref_esc rv) r2 y ρ3 q2
            obtain ⟨ro, ko⟩ := on_un toUn h3 r3
            rw [ko] at e
            cases q4 : lcL vs b t' el' ds (.un :: .un :: .un :: ro) with
            | bad => simp only [q4] at e; cases e
            | exc z ρ4 => simp only [q4] at e; cases e
            | ok ys ρ4 =>
              simp only [q4] at e
              obtain ⟨r4, rfl, k4⟩ := ref_lcL h3 hb a c ds ro ys ρ4 q4
              cases e
              refine ⟨r4, rfl, fun s0 s1 u j U => ?_⟩
              obtain ⟨u1, e1, U1⟩ := k2 s0 s1 u (j + ds.length * (m + n) + n) (by rw [show j + ds.length * (m + n) + n + m = j + (d :: ds).length * (m + n) by omega]; exact U)
              obtain ⟨u2, e2, U2⟩ := k3 s0 s1 u1 (j + ds.length * (m + n)) U1
              obtain ⟨u3, e3, U3⟩ := k4 s0 s1 u2 j U2
              exact ⟨u3, by unfold lcL; simp only [k1, e1, e2, ko, e3], U3⟩
theorem ref_lc {j : Nat} {vs : List Nat} {src src' : M Src} {b : Bd} {t t' : M Bool} {el el' : M RV} (h : Ref bb j src src') (a : Ref bb m t t') (c : Ref bb n el el') (hb : BdOk b) (h3 : vs3 vs = true) : Ref bb (j + 100 * (m + n)) (eLc vs src b t el) (eLcX vs src' b t' el') := ref_bnd h fun s rest x ρ' e => by
  by_cases w : (vsOk vs (.un :: .un :: .un :: rest) = true ∧ s.items.length ≤ 100) ∧ s.js = []
  · rw [if_pos w] at e
    obtain ⟨ro, ko⟩ := on_un toUn h3 rest
    rw [ko] at e
    cases q : lcL vs b t' el' s.items (.un :: .un :: .un :: ro) with
    | bad => rw [q] at e; cases e
    | exc y ρ1 => rw [q] at e; cases e
    | ok ys ρ1 =>
      rw [q] at e
      obtain ⟨r1, rfl, k1⟩ := (ref_lcL h3 hb a c s.items).le (Nat.mul_le_mul_right _ w.1.2) ro ys ρ1 q
      obtain ⟨rb, kb⟩ := back_un h3 rest r1
      simp only [kb] at e
      cases e
      refine ⟨rb, rfl, fun s0 s1 u i U => ?_⟩
      obtain ⟨u1, e1, U1⟩ := k1 s0 s1 u i U
      refine ⟨u1, ?_, U1⟩
      have l : s.items.length ≤ lim := Nat.le_trans w.1.2 (by decide)
      rw [if_pos ⟨vsOk_un h3 w.1.1 s0 s1 u, l⟩, w.2, on_nil, ko, e1]
      simp only [kb, on_nil]
  · rw [if_neg w] at e; cases e
theorem ref_bSome {f f' : M RV} (a : Ref bb m f f') : Ref bb (m + 0) (bSome f) (bSome f') := ref_bnd a fun x => ref_ask (q := fun ρ => intPart ρ x) (h := fun i => some (some i)) (fun rest b e s0 s1 u => by
    unfold intPart at e ⊢
    cases q : der (.un :: .un :: .un :: rest) x with
    | none => rw [q] at e; cases e
    | some d => rw [q] at e; rw [der_un q]; exact e) fun ρ => by cases intPart ρ x <;> rfl
theorem ref_cut {j : Nat} {f f' : M RV} {l l' r r' : M (Option Int)} (a : Ref bb m f f') (b : Ref bb n l l') (c : Ref bb j r r') : Ref bb (m + (0 + (n + (j + 0)))) (eCut f l r) (eCut f' l' r') := ref_bnd a fun x => ref_bnd (ref_lift _) fun x => ref_bnd b fun lo => ref_bnd c fun hi =>
  ref_ask (q := fun ρ => der ρ x) (h := fun d => (dCut lo hi d).map outRV) (fun rest y e => der_un e) fun ρ => by
    cases der ρ x with
    | none => rfl
    | some d => cases q : dCut lo hi d <;> simp [q]
theorem seq_un {rest : Rho} {r : RV} {x : Bool × List D × List Nat} (h : seqOf (.un :: .un :: .un :: rest) r = some x) (s0 s1 u : Slot) : seqOf (s0 :: s1 :: u :: rest) r = some x := by
  cases r with
  | val e => exact h
  | tmp c => exact h
  | bor i =>
    simp only [seqOf] at h ⊢
    cases q : (Slot.un :: .un :: .un :: rest)[i]? with
    | none => rw [q] at h; cases h
    | some s =>
      rw [q] at h
      cases s with
      | un => cases h
      | val e => rw [get_un q (by simp)]; exact h
      | own io lk c => rw [get_un q (by simp)]; exact h
theorem ref_iSeq {f f' : M RV} (a : Ref bb m f f') : Ref bb (m + (0 + 0)) (iSeq f) (iSeq f') := ref_bnd a fun x => ref_bnd (ref_lift _) fun x => ref_ask (q := fun ρ => seqOf ρ x) (h := fun z => some ⟨z.2.1, z.2.2⟩) (fun rest y e => seq_un e) fun ρ => by
  cases q : seqOf ρ x with
  | none => rfl
  | some z => rfl
theorem ref_repL {f f' g g' : M RV} (a : Ref bb m f f') (b : Ref bb n g g') : Ref bb (m + (n + 0)) (eRepL f g) (eRepL f' g') := ref_bnd a fun x => by
  cases x with
  | val d => exact ref_bad.le (Nat.zero_le _)
  | bor i => exact ref_bad.le (Nat.zero_le _)
  | tmp c =>
    cases c with
    | dic kvs => exact ref_bad.le (Nat.zero_le _)
    | lst ds =>
      exact ref_bnd b fun y => ref_ask (q := fun ρ => der ρ y) (h := fun d => match d with | .int k => if (k < 16777216 ∧ -16777216 < k) ∧ ds.length * k.toNat ≤ lim then some (.tmp (.lst (List.replicate k.toNat ds).flatten)) else none | _ => none) (fun rest b e => der_un e) fun ρ => by
        cases q : der ρ y with
        | none => rfl
        | some d =>
          cases d with
          | int k =>
            by_cases c : (k < 16777216 ∧ -16777216 < k) ∧ ds.length * k.toNat ≤ lim
            · simp only [if_pos c]
            · simp only [if_neg c]
          | none | bool | str | list | tuple | dict => rfl
theorem ref_op1 {g : D → Option RR} {f f' : M RV} (a : Ref bb m f f') : Ref bb (m + 0) (eOp1 g f) (eOp1 g f') := ref_bnd a fun x => ref_ask (q := fun ρ => der ρ x) (h := fun d => (g d).map outRV) (fun rest b e => der_un e) fun ρ => by
  cases der ρ x with
  | none => rfl
  | some d => cases q : g d <;> simp [q]
/-! ### a call with mixed things -/
mutual
def eqD : D → D → Bool
  | .none, .none => true
  | .bool a, .bool b => a == b
  | .int a, .int b => a == b
  | .str a, .str b => a == b
  | .list a, .list b => eqDs a b
  | .tuple a, .tuple b => eqDs a b
  | _, _ => false
def eqDs : List D → List D → Bool
  | [], [] => true
  | a :: as, b :: bs => eqD a b && eqDs as bs
  | _, _ => false
end
mutual
theorem eqD_eq : ∀ {a b : D}, eqD a b = true → a = b
  | .none, b, h => by cases b <;> simp [eqD] at h ⊢
  | .bool x, b, h => by cases b <;> simp [eqD] at h ⊢; exact h
  | .int x, b, h => by cases b <;> simp [eqD] at h ⊢; exact h
  | .str x, b, h => by cases b <;> simp [eqD] at h ⊢; exact h
  | .list x, b, h => by cases b <;> simp [eqD] at h ⊢; exact eqDs_eq h
  | .tuple x, b, h => by cases b <;> simp [eqD] at h ⊢; exact eqDs_eq h
  | .dict x, b, h => by cases b <;> simp [eqD] at h
theorem eqDs_eq : ∀ {a b : List D}, eqDs a b = true → a = b
  | [], b, h => by cases b <;> simp [eqDs] at h ⊢
  | x :: xs, b, h => by
    cases b with
    | nil => simp [eqDs] at h
    | cons y ys =>
      rw [eqDs, Bool.and_eq_true] at h
      rw [eqD_eq h.1, eqDs_eq h.2]
end
mutual
def shD : D → Sh
  | .list ds => .node (shDs ds)
  | .tuple ds => .node (shDs ds)
  | d => .leaf d
def shDs : List D → List Sh
  | [] => []
  | d :: ds => shD d :: shDs ds
end
mutual
theorem mem_shD : ∀ d : D, d ∈ vars (shD d)
  | .list ds => by rw [shD]; exact (vars_mem (mem_shDs ds)).1
  | .tuple ds => by rw [shD]; exact (vars_mem (mem_shDs ds)).2
  | .none => by simp [shD, vars]
  | .bool _ => by simp [shD, vars]
  | .int _ => by simp [shD, vars]
  | .str _ => by simp [shD, vars]
  | .dict _ => by simp [shD, vars]
theorem mem_shDs : ∀ ds : List D, ds ∈ varsL (shDs ds)
  | [] => by simp [shDs, varsL]
  | d :: ds => by rw [shDs]; exact varsL_mem (mem_shD d) (mem_shDs ds)
end
/-- arguments, each in all its readings -/
def RefA (m : Nat) (as : M (List RV)) (as' : M (List (List D))) : Prop := ∀ rest L ρ', as' (.un :: .un :: .un :: rest) = .ok L ρ' → ∃ rest', ρ' = .un :: .un :: .un :: rest' ∧ ∀ s0 s1 u k, Us true (k + m) u → ∃ ds u', ds ∈ L ∧ as (s0 :: s1 :: u :: rest) = .ok (ds.map .val) (s0 :: s1 :: u' :: rest') ∧ Us true k u'
def pinV (a : RV) : Option D := match pin a with
  | some (.val d) => some d
  | _ => none
theorem pinV_ok {a : RV} {d : D} (h : pinV a = some d) : pin a = some (.val d) := by
  unfold pinV at h
  cases q : pin a with
  | none => rw [q] at h; cases h
  | some r => cases r with
    | val e => rw [q] at h; cases h; rfl
    | bor i => rw [q] at h; cases h
    | tmp c => rw [q] at h; cases h
def xNil : M (List (List D)) := Ev.ret [[]]
def xV (f : M RV) (r : M (List (List D))) : M (List (List D)) := bnd f fun a => match pinV a with
  | some d => bnd r fun L => Ev.ret (L.map fun ds => d :: ds)
  | none => fun _ => .bad
def xM (f : M RV) (r : M (List (List D))) : M (List (List D)) := bnd f fun a => match pinV a with
  | some d => if shOk 8 (shD d) = true ∧ cntS (shD d) ≤ 100 then bnd r fun L => Ev.ret ((vars (shD d)).flatMap fun d => L.map fun ds => d :: ds) else fun _ => .bad
  | none => fun _ => .bad
theorem refA_nil : RefA 0 aNil xNil := fun rest L ρ' e => by
  cases e
  exact ⟨rest, rfl, fun s0 s1 u k U => ⟨[], u, by simp, rfl, U⟩⟩
theorem refA_V {f f' : M RV} {r : M (List RV)} {r' : M (List (List D))} (a : Ref true m f f') (b : RefA n r r') : RefA (m + n) (aCons f r) (xV f' r') := fun rest L ρ' e => by
  unfold xV at e
  unfold bnd at e
  cases q : f' (.un :: .un :: .un :: rest) with
  | bad => rw [q] at e; cases e
  | exc x ρ1 => rw [q] at e; cases e
  | ok rv ρ1 =>
    simp only [q] at e
    obtain ⟨r1, rfl, k1⟩ := a rest rv ρ1 q
    cases hv : pinV rv with
    | none => simp only [hv] at e; cases e
    | some d =>
      have hp := pinV_ok hv
      simp only [hv] at e
      cases q1 : r' (.un :: .un :: .un :: r1) with
      | bad => simp only [q1] at e; cases e
      | exc x ρ2 => simp only [q1] at e; cases e
      | ok L1 ρ2 =>
        simp only [q1] at e
        obtain ⟨r2, rfl, k2⟩ := b r1 L1 ρ2 q1
        cases e
        refine ⟨r2, rfl, fun s0 s1 u k U => ?_⟩
        obtain ⟨u1, e1, U1⟩ := k1 s0 s1 u (k + n) (by rw [show k + n + m = k + (m + n) by omega]; exact U)
        obtain ⟨ds, u2, hm, e2, U2⟩ := k2 s0 s1 u1 k U1
        refine ⟨d :: ds, u2, List.mem_map.mpr ⟨ds, hm, rfl⟩, ?_, U2⟩
        simp only [aCons, bnd, e1, hp, lift, e2, Ev.ret, List.map_cons]
theorem refA_M {f f' : M RV} {r : M (List RV)} {r' : M (List (List D))} (a : Ref true m f f') (b : RefA n r r') : RefA (m + (100 + n)) (aCons (eCallU (mixM 8) 0 (aCons (eVar 2) (aCons f aNil))) r) (xM f' r') := fun rest L ρ' e => by
  unfold xM at e
  unfold bnd at e
  cases q : f' (.un :: .un :: .un :: rest) with
  | bad => rw [q] at e; cases e
  | exc x ρ1 => rw [q] at e; cases e
  | ok rv ρ1 =>
    simp only [q] at e
    obtain ⟨r1, rfl, k1⟩ := a rest rv ρ1 q
    cases hv : pinV rv with
    | none => simp only [hv] at e; cases e
    | some d =>
      have hp := pinV_ok hv
      simp only [hv] at e
      by_cases c : shOk 8 (shD d) = true ∧ cntS (shD d) ≤ 100
      · rw [if_pos c] at e
        cases q1 : r' (.un :: .un :: .un :: r1) with
        | bad => simp only [q1] at e; cases e
        | exc x ρ2 => simp only [q1] at e; cases e
        | ok L1 ρ2 =>
          simp only [q1] at e
          obtain ⟨r2, rfl, k2⟩ := b r1 L1 ρ2 q1
          cases e
          refine ⟨r2, rfl, fun s0 s1 u k U => ?_⟩
          have U0 := U
          obtain ⟨u1, e1, U1⟩ := k1 s0 s1 u (k + n + cntS (shD d)) (U.less (by have := c.2; omega))
          obtain ⟨x, y, z, ru, UU⟩ := U1 rfl
          obtain ⟨r, mm, x', z', g1, g2, g3, UV⟩ := mix_ok c.1 d (k + n) x y z (mem_shD d) UU
          obtain ⟨ds, u2, hm, e2, U2⟩ := k2 s0 s1 (urn false false x' y z') k (fun _ => ⟨x', y, z', rfl, UV⟩)
          obtain ⟨x0, y0, z0, ru0, _⟩ := U0 rfl
          refine ⟨mm :: ds, u2, List.mem_flatMap.mpr ⟨mm, g3, List.mem_map.mpr ⟨ds, hm, rfl⟩⟩, ?_, U2⟩
          have v2 : eVar 2 (s0 :: s1 :: u :: rest) = .ok (.bor 2) (s0 :: s1 :: u :: rest) := by rw [ru0]; rfl
          have pr : pin r.rv = some (.val mm) := by
            cases r with
            | val d => cases g2; rfl
            | tmp c =>
              cases c with
              | lst ds => cases g2; rfl
              | dic kvs => cases g2
          have cu : callU (mixM 8) 2 [] [d] (s0 :: s1 :: u1 :: r1) = .ok r.rv (s0 :: s1 :: urn false false x' y z' :: r1) := by
            have g : (s0 :: s1 :: u1 :: r1)[2]? = some u1 := rfl
            unfold callU
            rw [g, ru]
            simp only [List.map_nil, List.nil_append, List.map_cons, g1]
            rfl
          have ec : eCallU (mixM 8) 0 (aCons (eVar 2) (aCons f aNil)) (s0 :: s1 :: u :: rest) = .ok r.rv (s0 :: s1 :: urn false false x' y z' :: r1) := by
            have pb : pin (.bor 2) = some (.bor 2) := rfl
            simp only [eCallU, aCons, aNil, bnd, v2, pb, lift, e1, hp, Ev.ret, List.getElem?_cons_zero, List.take_zero, escs, List.drop_succ_cons, List.drop_zero, esc, cu]
          rw [aCons]
          simp only [bnd, ec, pr, lift, e2, Ev.ret, List.map_cons]
      · rw [if_neg c] at e; cases e
/-- one answer for all readings -/
def eqR : Rt → Rt → Bool
  | .val a, .val b => eqD a b
  | .tmp (.lst a), .tmp (.lst b) => eqDs a b
  | _, _ => false
theorem eqR_eq {a b : Rt} (h : eqR a b = true) : a = b := by
  cases a with
  | val d => cases b with
    | val e => rw [eqD_eq h]
    | tmp c => cases h
  | tmp c => cases c with
    | dic kvs => cases b with
      | val e => cases h
      | tmp c => cases c <;> cases h
    | lst ds => cases b with
      | val e => cases h
      | tmp c => cases c with
        | lst es => rw [eqDs_eq h]
        | dic kvs => cases h
def okR (r : Res Rt) (x : Rt) : Bool := match r with
  | .ok y _ => eqR y x
  | _ => false
def callX (F : Fn) (as : M (List (List D))) : M RV := bnd as fun L ρ => match L with
  | [] => .bad
  | ds :: L => match F (ds.map .val) with
    | .ok r _ => if (L.all fun es => okR (F (es.map .val)) r) = true then .ok r.rv ρ else .bad
    | _ => .bad
theorem ref_callX {F : Fn} {as : M (List RV)} {as' : M (List (List D))} (a : RefA m as as') : Ref true m (eCall F as) (callX F as') := fun rest x ρ' e => by
  unfold callX bnd at e
  cases q : as' (.un :: .un :: .un :: rest) with
  | bad => rw [q] at e; cases e
  | exc x ρ1 => rw [q] at e; cases e
  | ok L ρ1 =>
    simp only [q] at e
    obtain ⟨r1, rfl, k1⟩ := a rest L ρ1 q
    cases L with
    | nil => cases e
    | cons ds L =>
      simp only at e
      cases q1 : F (ds.map .val) with
      | bad => rw [q1] at e; cases e
      | exc y ρ2 => rw [q1] at e; cases e
      | ok r ρ2 =>
        simp only [q1] at e
        split at e
        · rename_i al
          cases e
          refine ⟨r1, rfl, fun s0 s1 u k U => ?_⟩
          obtain ⟨es, u1, hm, e1, U1⟩ := k1 s0 s1 u k U
          refine ⟨u1, ?_, U1⟩
          have esv : ∀ (l : List D) ρ, escs (l.map RV.val) ρ = .ok l ρ := fun l => by
            induction l with
            | nil => exact fun ρ => rfl
            | cons d l ih => intro ρ; simp only [List.map_cons, escs, bnd, esc, ih, Ev.ret]
          have fr : ∃ ρ3, F (es.map .val) = .ok r ρ3 := by
            rcases List.mem_cons.mp hm with rfl | hm
            · exact ⟨_, q1⟩
            · have := List.all_eq_true.mp al es hm
              unfold okR at this
              split at this
              · rename_i y ρ3 q3
                rw [eqR_eq this] at q3
                exact ⟨_, q3⟩
              · cases this
          obtain ⟨ρ3, fr⟩ := fr
          simp only [eCall, bnd, e1, esv, fr]
        · cases e
end
end Ev

set_option Elab.async false
set_option linter.all false
set_option maxRecDepth 100000
set_option maxHeartbeats 4000000
set_option autoImplicit false
/-! .. statement by statement -/
namespace Ev
open PySem L2 PySem.Spec PyProof.Rows
abbrev RefB (f f' : S) (bb : Bool := true) : Prop := Ref bb 10000000 f f'
abbrev RefN (n : Nat) (f f' : S) (bb : Bool := true) : Prop := Ref bb (n * 10000000) f f'
theorem RefB.mk {bb : Bool} {m : Nat} {f f' : S} (h : Ref bb m f f') (l : m ≤ 10000000) : RefB f f' bb := h.le l
theorem refN_one {bb : Bool} {f f' : S} (h : RefB f f' bb) : RefN 1 f f' bb := h
theorem refB_seq {bb : Bool} {n : Nat} {f f' g g' : S} (a : RefB f f' bb) (b : RefN n g g' bb) : RefN (n + 1) (sSeq f g) (sSeq f' g') bb := (ref_seq a b).le (by omega)
def okF (r : Res Fl) : Bool := match r with
  | .ok (.rt (.val (.bool true))) _ => true
  | _ => false
theorem okF_ok {r : Res Fl} (h : okF r = true) : ∃ ρ', r = .ok (.rt (.val (.bool true))) ρ' := by
  unfold okF at h
  split at h
  · exact ⟨_, rfl⟩
  · cases h
/-- the whole law: cells, urn, and the rest run once -/
theorem law_run {m n : Nat} {s1 s2 r x : S} {ds : List D} {z0 z1 : Slot} {a b c : Int} (h1 : sSeq s1 (sSeq s2 r) ([.val (.list ds)] ++ List.replicate (m + 2) .un) = r (z0 :: z1 :: urn false false a b c :: List.replicate m .un)) (U : Urn 1000000000 a b c) (hn : n ≤ 100)
    (R : RefN n r x) (k : okF (x (.un :: .un :: .un :: List.replicate m .un)) = true) : ∃ ρ', bodyF (m + 2) (sSeq s1 (sSeq s2 r)) [.val (.list ds)] = .ok (.val (.bool true)) ρ' := by
  obtain ⟨ρ1, e⟩ := okF_ok k
  obtain ⟨r1, rfl, kk⟩ := R _ _ _ e
  obtain ⟨u', e2, _⟩ := kk z0 z1 (urn false false a b c) 0 (fun _ => ⟨a, b, c, rfl, U.less (by omega)⟩)
  unfold bodyF
  rw [h1, e2]
  exact ⟨_, rfl⟩
end Ev

set_option Elab.async false
set_option linter.all false
set_option maxRecDepth 100000
set_option maxHeartbeats 4000000
set_option autoImplicit false
/-! _law_cells(script, 1) and _law_box(cells, 0) -/
namespace Ev
open PySem L2 PySem.Spec PyProof.Rows
def cellB : S := sSeq (sSet 5 (eOp2 dMod (eB (on1 dInt) (aCons (eVar 3) (aNil))) (eVar 1))) (sSub 2 (eVar 5) (eOp2 dAdd (eOp2 dIx (eVar 2) (eVar 5)) (eOp2 dMul (eVar 4) (eOp2 dAdd (eVar 3) (eK (.int 2))))))
def cellsM : Fn := bodyF 4 (sSeq (sSet 2 (eOrV (eB (on1 dList) (aCons (eCut (eVar 0) (Ev.ret none) (bSome (eVar 1))) (aNil))) (eLst (aCons (eK (.int 0)) (aNil))))) (sSeq (sFor (iEnm (aCons (eCut (eVar 0) (bSome (eVar 1)) (bSome (eK (.int 63)))) (aNil))) (bTp [bNm 3, bNm 4]) cellB) (sRet (eVar 2))))
def boxM (K : Int) : Fn := bodyF 1 (sSeq (sSet 2 (eIf (tBool (eOp2 dLt (eVar 1) (eB (on1 dLen) (aCons (eVar 0) (aNil))))) (eOp2 dIx (eVar 0) (eVar 1)) (eK (.int 0)))) (sRet (eLst (aCons (eOp2 dMul (eB (on1 dAbs) (aCons (eVar 2) (aNil))) (eB (on1 dInt) (aCons (eOp2 dGe (eB (on1 dAbs) (aCons (eVar 2) (aNil))) (eOp2 dPow (eK (.int 10)) (eK (.int 18)))) (aNil)))) (aCons (eOp2 dAdd (eOp2 dAdd (eOp2 dMod (eB (on1 dInt) (aCons (eVar 2) (aNil))) (eK (.int 2305843009213693951))) (eOp2 dMul (eK (.int 39373)) (eVar 1))) (eK (.int K))) (aCons (eK (.int 0)) (aNil)))))))
abbrev stC (L : D) (c : Int) (x y z : Slot) : Rho := [.val L, .val (.int 1), .own false false (.lst [.int c]), x, y, z]
theorem cell_step {L : D} {c w : Int} {k : Nat} {z : Slot} (hz : free1 z = true) (hw : w.natAbs.log2 ≤ 1048577) (hk : k ≤ 63) :
    cellB (stC L c (.val (.int k)) (.val (.int w)) z) = .ok .nx (stC L (c + w * (k + 2)) (.val (.int k)) (.val (.int w)) (.val (.int 0))) := by
  have m1 : w.natAbs.log2 + ((k : Int) + 2).natAbs.log2 ≤ 134000000 := by
    have l1 : (k : Int) + 2 < 2 ^ 7 := by omega
    have l2 : ((k : Int) + 2).natAbs.log2 < 7 := log2_le (by omega) l1 (by decide)
    omega
  have f1 : (k : Int).fmod 1 = 0 := Int.fmod_one _
  simp [cellB, stC, sSeq, sSet, sSub, bnd, Ev.ret, lift, pin, eVar, eK, eOp2, eB, aCons, aNil, ders, der, Cell.d, dIx, dMod, dMul, dAdd, dInt, on1, atI, ixN, outRV, st, stV, hz, esc, m1, f1]
theorem cell_loop {L : D} {B : Nat} : ∀ (zs : List Int) (k j : Nat) (c : Int) (x y z : Slot), free1 x = true → free1 y = true → free1 z = true → (∀ w ∈ zs, w.natAbs.log2 ≤ 1048577 ∧ w.natAbs ≤ B) → k + zs.length ≤ 63 → c.natAbs ≤ B * j →
    ∃ c' x' y' z', forL (bTp [bNm 3, bNm 4]) cellB (enums k (zs.map PyData.int)) (stC L c x y z) = .ok .nx (stC L c' x' y' z') ∧ c'.natAbs ≤ B * (j + 65 * zs.length)
  | [], k, j, c, x, y, z, _, _, _, _, _, hc => ⟨c, x, y, z, rfl, hc⟩
  | w :: zs, k, j, c, x, y, z, hx, hy, hz, hw, hk, hc => by
    have lk : k ≤ 63 := by omega
    obtain ⟨w1, w2⟩ := hw w List.mem_cons_self
    rw [List.length_cons] at hk
    have hc' : (c + w * (k + 2)).natAbs ≤ B * (j + 65) := by
      have e1 : (w * ((k : Int) + 2)).natAbs = w.natAbs * (k + 2) := by
        rw [Int.natAbs_mul]
        congr 1
      have e2 : w.natAbs * (k + 2) ≤ B * 65 := Nat.mul_le_mul w2 (by omega)
      have := Int.natAbs_add_le c (w * (k + 2))
      rw [Nat.mul_add]
      omega
    obtain ⟨c', x', y', z', e, b⟩ := cell_loop (L := L) zs (k + 1) (j + 65) (c + w * (k + 2)) (.val (.int k)) (.val (.int w)) (.val (.int 0)) rfl rfl rfl (fun v hv => hw v (List.mem_cons_of_mem _ hv)) (by omega) hc'
    refine ⟨c', x', y', z', ?_, by rw [List.length_cons]; rw [show j + 65 * (zs.length + 1) = j + 65 + 65 * zs.length by omega]; exact b⟩
    rw [List.map_cons, enums, forL]
    have b1 : bTp [bNm 3, bNm 4] (.tuple [.int k, .int w]) (stC L c x y z) = some (stC L c (.val (.int k)) (.val (.int w)) z) := by
      simp [bTp, bAll, bNm, stC, hx, hy]
    simp only [b1, cell_step hz w1 lk]
    exact e
theorem body_rt {m : Nat} {f : S} {ρ ρ' : Rho} {r : Rt} (h : f (ρ ++ List.replicate m .un) = .ok (.rt r) ρ') : bodyF m f ρ = .ok r (backP ρ ρ') := by
  unfold bodyF
  rw [h]
theorem seq_nx {f g : S} {ρ ρ1 : Rho} (h : f ρ = .ok .nx ρ1) : sSeq f g ρ = g ρ1 := by
  unfold sSeq
  rw [h]
theorem cells_ok {ns : List Int} {B : Nat} (hl : ns.length ≤ 63) (hw : ∀ w ∈ ns, w.natAbs.log2 ≤ 1048577 ∧ w.natAbs ≤ B) :
    ∃ c ρ', cellsM [.val (.list (ns.map PyData.int)), .val (.int 1)] = .ok (.tmp (.lst [.int c])) ρ' ∧ c.natAbs ≤ B * 5000 := by
  have cut2 : ∀ n : Nat, n ≤ 63 → HT.sIx n n (some 63) = n := fun n h => by
    show HT.sIx n n (some ((63 : Nat) : Int)) = n
    rw [HT.sIx_nat]; omega
  have go : ∀ (c : Int) (zs : List Int), (∀ w ∈ zs, w.natAbs.log2 ≤ 1048577 ∧ w.natAbs ≤ B) → zs.length ≤ 63 → c.natAbs ≤ B * 1 → cutD (ns.map PyData.int) (some 1) (some 63) = zs.map PyData.int →
      ∃ c' ρ', (sSeq (sFor (iEnm (aCons (eCut (eVar 0) (bSome (eVar 1)) (bSome (eK (.int 63)))) (aNil))) (bTp [bNm 3, bNm 4]) cellB) (sRet (eVar 2))) (stC (.list (ns.map PyData.int)) c .un .un .un) = .ok (.rt (.tmp (.lst [.int c']))) ρ' ∧ c'.natAbs ≤ B * 5000 := fun c zs h1 h2 h3 h4 => by
    obtain ⟨c', x', y', z', e, b⟩ := cell_loop (L := .list (ns.map PyData.int)) zs 0 1 c .un .un .un rfl rfl rfl h1 (by omega) h3
    have src : iEnm (aCons (eCut (eVar 0) (bSome (eVar 1)) (bSome (eK (.int 63)))) (aNil)) (stC (.list (ns.map PyData.int)) c .un .un .un) = .ok ⟨enums 0 (zs.map PyData.int), []⟩ (stC (.list (ns.map PyData.int)) c .un .un .un) := by
      simp [iEnm, aCons, aNil, eCut, bSome, bnd, eVar, eK, Ev.ret, lift, pin, der, intPart, dCut, h4, outRV, stC, seqOf, seqD]
    refine ⟨c', (stC (.list (ns.map PyData.int)) c' x' y' z').set 2 .un, ?_, Nat.le_trans b (Nat.mul_le_mul_left _ (by omega))⟩
    have fr : sFor (iEnm (aCons (eCut (eVar 0) (bSome (eVar 1)) (bSome (eK (.int 63)))) (aNil))) (bTp [bNm 3, bNm 4]) cellB (stC (.list (ns.map PyData.int)) c .un .un .un) = .ok .nx (stC (.list (ns.map PyData.int)) c' x' y' z') := by
      unfold sFor bnd
      rw [src]
      simp only
      rw [on_nil, e, unl_nil]
    unfold sSeq
    rw [fr]
    rfl
  cases ns with
  | nil =>
    obtain ⟨c, ρ', e, b⟩ := go 0 [] (by simp) (by simp) (by simp) rfl
    refine ⟨c, backP [.val (.list []), .val (.int 1)] ρ', ?_, b⟩
    have s1 : sSet 2 (eOrV (eB (on1 dList) (aCons (eCut (eVar 0) (Ev.ret none) (bSome (eVar 1))) (aNil))) (eLst (aCons (eK (.int 0)) (aNil)))) [.val (.list []), .val (.int 1), .un, .un, .un, .un] = .ok .nx (stC (.list []) 0 .un .un .un) := rfl
    exact body_rt ((seq_nx s1).trans e)
  | cons n t =>
    have ct : cutD ((n :: t).map PyData.int) (some 1) (some 63) = t.map PyData.int := by
      have hle : ((n :: t).map PyData.int).length ≤ 63 := by rw [List.length_map]; exact hl
      unfold cutD
      rw [cut2 _ hle]
      have : HT.sIx ((n :: t).map PyData.int).length 0 (some 1) = 1 := by
        show HT.sIx _ 0 (some ((1 : Nat) : Int)) = 1
        rw [HT.sIx_nat, List.length_map, List.length_cons]; omega
      rw [this]
      simp
      exact List.take_of_length_le (by simp)
    obtain ⟨c, ρ', e, b⟩ := go n t (fun w h => hw w (List.mem_cons_of_mem _ h)) (by rw [List.length_cons] at hl; omega) (by rw [Nat.mul_one]; exact (hw n List.mem_cons_self).2) ct
    refine ⟨c, backP [.val (.list ((n :: t).map PyData.int)), .val (.int 1)] ρ', ?_, b⟩
    have c0 : cutD ((n :: t).map PyData.int) none (some 1) = [.int n] := by
      unfold cutD
      have : HT.sIx ((n :: t).map PyData.int).length ((n :: t).map PyData.int).length (some 1) = 1 := by
        show HT.sIx _ _ (some ((1 : Nat) : Int)) = 1
        rw [HT.sIx_nat, List.length_map, List.length_cons]; omega
      rw [this]
      simp [HT.sIx_none]
    have s1 : sSet 2 (eOrV (eB (on1 dList) (aCons (eCut (eVar 0) (Ev.ret none) (bSome (eVar 1))) (aNil))) (eLst (aCons (eK (.int 0)) (aNil)))) [.val (.list ((n :: t).map PyData.int)), .val (.int 1), .un, .un, .un, .un] = .ok .nx (stC (.list ((n :: t).map PyData.int)) n .un .un .un) := by
      generalize hL : (n :: t).map PyData.int = L at c0
      simp [sSet, eOrV, eB, aCons, aNil, eCut, bSome, bnd, eVar, Ev.ret, lift, pin, der, ders, intPart, dCut, c0, outRV, stC, on1, dList, truR, truD, Cell.d, st, stT, free1]
    exact body_rt ((seq_nx s1).trans e)
theorem box_ok {c K : Int} (K0 : 0 ≤ K) (K1 : K ≤ 100000000) (hc : c.natAbs.log2 ≤ 133999999) : ∃ a b ρ', boxM K [.val (.list [.int c]), .val (.int 0)] = .ok (.tmp (.lst [.int a, .int b, .int 0])) ρ' ∧ Urn 1000000000 a b 0 := by
  obtain ⟨t, ht⟩ : ∃ t, t = (if c < 0 then -c else c) := ⟨_, rfl⟩
  have t0 : 0 ≤ t := by rw [ht]; split <;> omega
  have tl : t.natAbs = c.natAbs := by rw [ht]; split <;> omega
  obtain ⟨g, hg⟩ : ∃ g : Int, g = (if 1000000000000000000 ≤ t then 1 else 0) := ⟨_, rfl⟩
  have g0 : 0 ≤ g := by rw [hg]; split <;> omega
  have gl : g.natAbs.log2 = 0 := by rw [hg]; split <;> decide
  have m1 : t.natAbs.log2 + g.natAbs.log2 ≤ 134000000 := by rw [tl, gl]; omega
  have m2 : Nat.log2 39373 ≤ 134000000 := by decide +kernel
  have b0 : 0 ≤ c.fmod 2305843009213693951 := Int.fmod_nonneg_of_pos _ (by decide)
  have b1 : c.fmod 2305843009213693951 < 2305843009213693951 := Int.fmod_lt_of_pos _ (by decide)
  have l3 : 3 ≤ lim := by decide
  refine ⟨t * g, c.fmod 2305843009213693951 + 0 + K, backP [.val (.list [.int c]), .val (.int 0)] [.val (.list [.int c]), .val (.int 0), .val (.int c)], ?_, ⟨Int.mul_nonneg t0 g0, by omega, by omega, by omega, by omega⟩⟩
  · simp [boxM, bodyF, sSeq, sSet, sRet, bnd, Ev.ret, lift, pin, eVar, eK, eOp2, eB, eIf, eLst, aCons, aNil, ders, der, Cell.d, tBool, dLt, dGe, cmpBy, dIx, dMod, dMul, dAdd, dInt, dAbs, dPow, dLen, on1, atI, ixN, outRV, st, stV, free1, esc, escs, rtOf, ← ht, m1, m2, ← hg, l3]
end Ev

set_option Elab.async false
set_option linter.all false
set_option maxRecDepth 100000
set_option maxHeartbeats 4000000
set_option autoImplicit false
/-! a law with its cells in slot 1 and its urn in slot 2 -/
namespace Ev
open PySem L2 PySem.Spec PyProof.Rows
theorem bits_le {z : Int} {N : Nat} (h : Builtin.Int.intBits z ≤ N) : z.natAbs.log2 ≤ N ∧ z.natAbs ≤ 2 ^ N := by
  unfold Builtin.Int.intBits at h
  by_cases c : z = 0
  · subst c
    refine ⟨?_, ?_⟩
    · show Nat.log2 0 ≤ N
      rw [show Nat.log2 0 = 0 by decide]
      exact Nat.zero_le _
    · exact Nat.zero_le _
  · have c' : (z == 0) = false := by simpa using c
    rw [c'] at h
    simp only [Bool.false_eq_true, if_false] at h
    refine ⟨by omega, ?_⟩
    have l : z.natAbs < 2 ^ (z.natAbs.log2 + 1) := Nat.lt_log2_self
    exact Nat.le_of_lt (Nat.lt_of_lt_of_le l (Nat.pow_le_pow_right (by decide) h))
theorem cells_log {c : Int} {N : Nat} (h : c.natAbs ≤ 2 ^ N * 5000) : c.natAbs.log2 < N + 13 := by
  apply Flt.log2_lt_of (by omega)
  rw [Nat.pow_add]
  have : 0 < 2 ^ N := Nat.two_pow_pos N
  have : 2 ^ N * 5000 < 2 ^ N * 2 ^ 13 := Nat.mul_lt_mul_of_pos_left (by decide) this
  omega
/-- the law's urn -/
theorem start_ok {ns : List Int} {K : Int} (K0 : 0 ≤ K) (K1 : K ≤ 100000000) (hl : ns.length ≤ 63) (hb : ∀ z ∈ ns, Builtin.Int.intBits z ≤ 1048576) : ∃ c a b ρ1 ρ2, cellsM [.val (.list (ns.map PyData.int)), .val (.int 1)] = .ok (.tmp (.lst [.int c])) ρ1 ∧ boxM K [.val (.list [.int c]), .val (.int 0)] = .ok (.tmp (.lst [.int a, .int b, .int 0])) ρ2 ∧ Urn 1000000000 a b 0 := by
  have key : ∀ N : Nat, N = 1048576 → ∃ c a b ρ1 ρ2, cellsM [.val (.list (ns.map PyData.int)), .val (.int 1)] = .ok (.tmp (.lst [.int c])) ρ1 ∧ boxM K [.val (.list [.int c]), .val (.int 0)] = .ok (.tmp (.lst [.int a, .int b, .int 0])) ρ2 ∧ Urn 1000000000 a b 0 := fun N hN => by
    obtain ⟨c, ρ1, e1, bd⟩ := cells_ok (B := 2 ^ N) hl fun w hw => by
      obtain ⟨h1, h2⟩ := bits_le (N := N) (by rw [hN]; exact hb w hw)
      exact ⟨by omega, h2⟩
    have l := cells_log bd
    obtain ⟨a, b, ρ2, e2, U⟩ := box_ok (c := c) K0 K1 (by omega)
    exact ⟨c, a, b, ρ1, ρ2, e1, e2, U⟩
  exact key 1048576 rfl
theorem law2 {m n : Nat} {r x : S} {ns : List Int} {K : Int} (K0 : 0 ≤ K) (K1 : K ≤ 100000000) (hl : ns.length ≤ 63) (hb : ∀ z ∈ ns, Builtin.Int.intBits z ≤ 1048576) (hn : n ≤ 100) (R : RefN n r x) (k : okF (x (.un :: .un :: .un :: List.replicate m .un)) = true) :
    ∃ ρ', bodyF (m + 2) (sSeq (sSet 1 (eCall cellsM (aCons (eVar 0) (aCons (eK (.int 1)) aNil)))) (sSeq (sSet 2 (eCall (boxM K) (aCons (eVar 1) (aCons (eK (.int 0)) aNil)))) r)) [.val (.list (ns.map PyData.int))] = .ok (.val (.bool true)) ρ' := by
  obtain ⟨c, a, b, ρ1, ρ2, e1, e2, U⟩ := start_ok K0 K1 hl hb
  generalize ns.map PyData.int = L at e1 ⊢
  refine law_run (z0 := .val (.list L)) (z1 := .val (.list [.int c])) (a := a) (b := b) (c := 0) ?_ U hn R k
  have h1 : sSet 1 (eCall cellsM (aCons (eVar 0) (aCons (eK (.int 1)) aNil))) ([.val (.list L)] ++ List.replicate (m + 2) .un) = .ok .nx (.val (.list L) :: .own false false (.lst [.int c]) :: .un :: List.replicate m .un) := by
    simp [sSet, eCall, aCons, aNil, bnd, eVar, eK, Ev.ret, lift, pin, escs, esc, e1, Rt.rv, st, stT, free1, List.replicate_succ]
  have h2 : sSet 2 (eCall (boxM K) (aCons (eVar 1) (aCons (eK (.int 0)) aNil))) (.val (.list L) :: .own false false (.lst [.int c]) :: .un :: List.replicate m .un) = .ok .nx (.val (.list L) :: .val (.list [.int c]) :: urn false false a b 0 :: List.replicate m .un) := by
    simp [sSet, eCall, aCons, aNil, bnd, eVar, eK, Ev.ret, lift, pin, escs, esc, e2, Rt.rv, st, stT, free1, urn]
  rw [seq_nx h1, seq_nx h2]
end Ev

set_option Elab.async false
set_option linter.all false
set_option maxRecDepth 100000
set_option maxHeartbeats 4000000
set_option autoImplicit false
/-! a run cut in parts -/
namespace Ev
open PySem L2 PySem.Spec PyProof.Rows
def eqS : Slot → Slot → Bool
  | .un, .un => true
  | .val d, .val e => eqD d e
  | .own a b (.lst ds), .own c d (.lst es) => a == c && b == d && eqDs ds es
  | _, _ => false
theorem eqS_eq {s t : Slot} (h : eqS s t = true) : s = t := by
  cases s with
  | un => cases t with
    | un => rfl
    | val d => cases h
    | own a b c => cases h
  | val d => cases t with
    | un => cases h
    | val e => rw [eqD_eq h]
    | own a b c => cases h
  | own a b c => cases t with
    | un => cases c <;> cases h
    | val e => cases c <;> cases h
    | own a' b' c' =>
      cases c with
      | dic k => cases c' <;> cases h
      | lst ds => cases c' with
        | dic k => cases h
        | lst es =>
          simp only [eqS, Bool.and_eq_true, beq_iff_eq] at h
          rw [h.1.1, h.1.2, eqDs_eq h.2]
def eqRho : Rho → Rho → Bool
  | [], [] => true
  | s :: ss, t :: ts => eqS s t && eqRho ss ts
  | _, _ => false
theorem eqRho_eq : ∀ {a b : Rho}, eqRho a b = true → a = b
  | [], [], _ => rfl
  | [], _ :: _, h => by cases h
  | _ :: _, [], h => by cases h
  | s :: ss, t :: ts, h => by
    rw [eqRho, Bool.and_eq_true] at h
    rw [eqS_eq h.1, eqRho_eq h.2]
def okS (r : Res Fl) (st : Rho) : Bool := match r with
  | .ok .nx ρ => eqRho ρ st
  | _ => false
theorem okS_ok {r : Res Fl} {st : Rho} (h : okS r st = true) : r = .ok .nx st := by
  cases r with
  | ok a ρ => cases a with
    | nx => rw [eqRho_eq (show eqRho ρ st = true from h)]
    | ct | bk | rt r => cases h
  | exc x ρ => cases h
  | bad => cases h
theorem seq_assoc {f g h : S} : sSeq (sSeq f g) h = sSeq f (sSeq g h) := by
  funext ρ
  unfold sSeq
  cases q : f ρ with
  | bad => rfl
  | exc x ρ' => rfl
  | ok a ρ' => cases a <;> rfl
end Ev

set_option Elab.async false
set_option linter.all false
set_option maxRecDepth 100000
set_option maxHeartbeats 4000000
set_option autoImplicit false
/-! math.gcd under a module's name -/
namespace Ev
open PySem L2 PySem.Spec PyProof.Rows
def dGcd : D → D → Option RR
  | .int a, .int b => some (.sol (.int ((Nat.gcd a.natAbs b.natAbs : Nat) : Int)))
  | _, _ => none
section
variable {X : Cx} {W : WX}
theorem cr_gcdD : CallR X (.builtin "math.gcd") (rDn X.K (on2 dGcd)) := call_rDn2 cr_gcd fun x y H Q ⟨G, d, e, rr, s, dx, dy, g, o⟩ => by
  unfold dGcd at g
  split at g
  · rename_i a b
    cases g
    exact ⟨a, b, by rw [dvInt dx, dvInt dy], out_sol s o (.int _)⟩
  · cases g
theorem ev_gcd {x : Str} {e : Expr} {es : List Expr} {f : M (List RV)} {p pos : Pos} (hg : Gl X x) (hm : X.mg x = some (.builtin "math.gcd")) (ha : EA X W (e :: es) f) (hdb : (x == ("__debug__" : Str)) = false := by decide)
    (he : starEach (e :: es) X.env = (false, eval e X.env) :: starEach es X.env := by rfl) (hpl : (backTo pos (starEach es X.env)).any (·.1) = false := by rfl) : EV X W (.Call (.Name x p) (e :: es) [] pos) (eB (on2 dGcd) f) :=
  pe_imp (pe_callBfun cr_gcdD hg hm ha hdb he hpl) fun σ H Q w => rd_B (X := X) (fun _ _ _ z => z) w
end
end Ev

set_option Elab.async false
set_option linter.all false
set_option maxRecDepth 100000
set_option maxHeartbeats 4000000
set_option autoImplicit false
/-! t[::-1] of a tuple -/
namespace Ev
open PySem L2 PySem.Spec PyProof.Rows
section
variable {prog : Program} {w : World} {A : Around} {E : Value → Shared → Prop} {s : Shared}
theorem sliceApplied_rev {sl : Addr} {n : Nat} {t : Tok} {Q : Int × Int × Nat → Shared → Prop} (hs : s.heap.IsSliceOf sl .none .none (.int (-1) t))
    (h : Q ((n : Int) - 1, -1, n) s) : wpAny (model prog w) A (Builtin.Slice.sliceApplied (.ref sl) (pure (n : Int))) Q E s := by
  obtain ⟨os, hos, hcs, hds⟩ := id hs
  unfold Builtin.Slice.sliceApplied Builtin.Slice.sliceFields
  refine wpAny_bind (wpAny_bind (wpAny_field hos hds (x := .none) rfl (wpAny_bind (wpAny_field hos hds (x := .none) rfl (wpAny_bind (wpAny_field hos hds (x := .int (-1) t) rfl (wpAny_pure ?_)))))))
  refine wpAny_bind (slicePart_int ?_)
  show wpAny _ _ (if ((-1 : Int) == 0) = true then _ else _) _ _ s
  rw [if_neg (by decide)]
  refine wpAny_bind (slicePart_none (wpAny_bind (slicePart_none (wpAny_bind (wpAny_pure ?_)))))
  show wpAny _ _ (match Builtin.Slice.sliceAdjust none none (-1) (n : Int) with | (lo, hi) => pure (lo, (-1 : Int), Builtin.Slice.slicePlaces lo hi (-1))) _ _ s
  have e : Builtin.Slice.sliceAdjust none none (-1) (n : Int) = ((n : Int) - 1, -1) := by
    unfold Builtin.Slice.sliceAdjust
    simp
  rw [e]
  show wpAny _ _ (pure ((n : Int) - 1, (-1 : Int), Builtin.Slice.slicePlaces ((n : Int) - 1) (-1) (-1))) _ _ s
  have e2 : Builtin.Slice.slicePlaces ((n : Int) - 1) (-1) (-1) = n := by
    unfold Builtin.Slice.slicePlaces
    simp
    try omega
  rw [e2]
  exact wpAny_pure h
theorem pick_rev (xs : Array Value) : ((List.range xs.size).filterMap fun (m : Nat) => xs[(((xs.size : Int) - 1) + (m : Int) * (-1)).toNat]?).toArray = xs.toList.reverse.toArray := by
  have e : (List.range xs.size).map (fun m => xs.size - 1 - m) = (List.range xs.size).reverse := PySem.W.krv_range _
  have e1 : (fun (m : Nat) => xs[(((xs.size : Int) - 1) + (m : Int) * (-1)).toNat]?) = (fun k => xs[k]?) ∘ fun (m : Nat) => (((xs.size : Int) - 1) + (m : Int) * (-1)).toNat := rfl
  rw [e1, ← List.filterMap_map]
  have e3 : (List.range xs.size).map (fun (m : Nat) => (((xs.size : Int) - 1) + (m : Int) * (-1)).toNat) = (List.range xs.size).map (fun m => xs.size - 1 - m) := by
    apply List.map_congr_left
    intro m hm
    have := List.mem_range.mp hm
    omega
  rw [e3, e, List.filterMap_reverse, PySem.W.krv_all]
open HT in
theorem getItem_tuple_rev {t sl : Addr} {items : Array Value} {k : Tok} {Q : Value → Shared → Prop} (ht : IsTup s.heap t items) (hs : s.heap.IsSliceOf sl .none .none (.int (-1) k))
    (h : Q (.ref s.heap.objs.size) { s with heap := s.heap.push { cls := .type "tuple", data := .seq items.toList.reverse.toArray } })
    (hsz : items.size ≤ sizeLine) : wpAny (model prog w) A (getItem (.ref t) (.ref sl)) Q E s := by
  have htake : sizeOk (.seq items.toList.reverse.toArray) := by
    show items.toList.reverse.toArray.size ≤ sizeLine
    rw [List.size_toArray, List.length_reverse, Array.length_toList]
    exact hsz
  obtain ⟨os, hos, hcs, hds⟩ := id hs
  have hTs : s.TypeIs (.ref sl) "slice" := ⟨os, hos, hcs⟩
  unfold getItem
  try with_reducible refine wpAny_holding ?_
  first | refine wpAny_bind (wpAny_pure ?_) | skip
  refine wpAny_bind (wpAny_sequenceKey ht.typeIs (by decide) ?_)
  refine wpAny_bind (wpAny_callSpecial?_slot (name := Str.ofString "__getitem__") ht.typeIs PyProof.Rows.slot_tuple_getitem
    (wpAny_call_entry PyProof.Rows.slot_tuple_getitem ht.typeIs entry_tuple_getitem ?_ (args_tuple_getitem _ _)))
  show wpAny _ _ (Builtin.Tuple.tupleItemsOf (.ref t) >>= _) _ _ s
  refine wpAny_bind (tupleItemsOf_ ht ?_)
  refine wpAny_bind (wpAny_typeOf hTs ?_)
  rw [if_pos (by decide)]
  refine wpAny_bind (sliceApplied_rev hs ?_)
  have hno : ¬ ((((items.size : Int) - 1) == 0 && (-1 : Int) == 1 && items.size == items.size) = true) := by
    intro q
    rw [Bool.and_eq_true, Bool.and_eq_true] at q
    exact absurd q.1.2 (by decide)
  show wpAny _ _ (if ((((items.size : Int) - 1) == 0 && (-1 : Int) == 1 && items.size == items.size)) = true then _ else _) _ _ s
  rw [if_neg hno, pick_rev]
  first
    | exact wpAny_bind (m := Builtin.Tuple.tupleExact _) (wpAny_newObj_type (wpAny_pure ⟨_, rfl, wpAny_pure h⟩) htake)
    | exact wpAny_bind (m := Builtin.Tuple.tupleExact _) (wpAny_newObj_type (wpAny_bind (wpAny_pure (wpAny_pure ⟨_, rfl, wpAny_pure h⟩))) htake)
    | exact wpAny_bind (wpAny_bind (m := Builtin.Tuple.tupleExact _) (wpAny_newObj_type (wpAny_pure (wpAny_pure ⟨_, rfl, wpAny_pure h⟩)) htake))
    | exact wpAny_bind (wpAny_bind (m := Builtin.Tuple.tupleExact _) (wpAny_newObj_type (wpAny_pure ⟨_, rfl, wpAny_pure h⟩) htake))
end
section
variable {X : Cx} {e st : Expr} {te tst : TE} {p2 pos : Pos}
theorem pe_revT (he : PE X e te) (hst : PE X st tst) : PE X (.Subscript e (.Slice none none (some st) p2) pos) (fun σ H Q => te σ H fun x H1 => tst σ H1 fun k H2 => k = .int (-1) ∧ ∃ a xs, x = .ref a ∧ SqT X.K H2 a xs ∧ ∀ p, H2 p = none → Q (.ref p) (upd H2 p (.tup xs.reverse))) := by
  refine ⟨fun pins s σ H Q I h => ?_⟩
  refine Subscript_ (thn (he.run pins s σ H _ I h) fun v s1 ⟨x, H1, I1, r1, q1⟩ => ?_)
  refine wpAny_Slice (thn (po_none.run pins s1 σ H1 (fun o G => o = none ∧ G = H1) I1 ⟨rfl, rfl⟩) fun vl s2 ⟨l, H2, I2, pl, q2⟩ => thn (po_none.run pins s2 σ H2 (fun o G => o = none ∧ G = H1) I2 ⟨rfl, q2.2⟩) fun vu s4 ⟨u, H4, I4', pu, q4⟩ => ?_)
  obtain ⟨rfl, rfl⟩ := q2
  obtain ⟨rfl, rfl⟩ := q4
  cases pl
  cases pu
  rw [evalPart_some]
  refine thn (hst.run pins s4 σ _ _ I4' q1) fun vk s3 ⟨k, H3, I3, pk, q3⟩ => ?_
  obtain ⟨rfl, a, xs, rfl, hx, q⟩ := q3
  obtain ⟨t, rfl⟩ := pk
  have I4 : Inv X pins σ H3 { s3 with heap := s3.heap.push { cls := .type "slice", data := .fields #[.none, .none, .int (-1) t] } } := I3.kept (t' := s3.toks) fun b ob q => Heap.get?_push_of_some _ q
  cases r1
  obtain ⟨its, r, ht, hz⟩ := I4.tuple hx
  have hlen : its.toArray.size = xs.length := by rw [List.size_toArray]; exact r.length.symm
  show wpAny (model X.prog X.w) X.A (subscriptTail e (.Slice none none (some st) p2) (.ref a) (.ref s3.heap.objs.size)) (EP X pins σ Q) X.xe { s3 with heap := s3.heap.push { cls := .type "slice", data := .fields #[.none, .none, .int (-1) t] } }
  refine tail_any (ops := [.ref a, .ref s3.heap.objs.size]) ht.typeIs PyProof.Rows.slot_tuple_getitem.lookup ?_ rfl
  refine getItem_tuple_rev ht (Heap.IsSliceOf.new ..) ?_ (by rw [hlen]; exact hz)
  refine ⟨.ref _, _, I4.laid (t' := s3.toks) (o := .tup xs.reverse) (fun b ob q => Heap.get?_push_of_some _ q) (Nat.le_refl _) ?_, rfl, q _ (I4.hok.fresh (Nat.le_refl _))⟩
  exact ⟨by rw [List.length_reverse]; exact hz, _, r.reverse, IsTup.new _ _⟩
def dRevT : D → D → Option RR
  | .tuple ds, .int i => if i = -1 then some (.sol (.tuple ds.reverse)) else none
  | _, _ => none
def rRevT (K : PySem.W.Frag) : R2 := fun x k H Q => k = .int (-1) ∧ ∃ a xs, x = .ref a ∧ SqT K H a xs ∧ ∀ p, H p = none → Q (.ref p) (upd H p (.tup xs.reverse))
theorem ev_revT {W : WX} {f g : M RV} (he : EV X W e f) (hst : EV X W st g) : EV X W (.Subscript e (.Slice none none (some st) p2) pos) (eOp2 dRevT f g) :=
  pe_imp (pe_revT he hst) fun σ H Q w => rd_op2 (X := X) (r := rRevT X.K) (fun x y H Q ⟨G, d, k, rr, s, dx, dk, g, o⟩ => by
    unfold dRevT at g
    split at g
    · rename_i ds i
      by_cases c : i = -1
      · rw [if_pos c] at g
        cases g
        obtain ⟨a, vs, rfl, h1, h2⟩ := dvTup dx
        refine ⟨by rw [dvInt dk, c], a, vs, rfl, sqT_mono s h1, fun p n => out_tup s o n (dps_rev h2)⟩
      · rw [if_neg c] at g; cases g
    · cases g) w
end
end Ev

set_option Elab.async false
set_option linter.all false
set_option maxRecDepth 100000
set_option maxHeartbeats 4000000
set_option autoImplicit false
/-! a law with its urn in slot 1 and two draws ahead: a flag in slot 2, a part in slot 3 -/
namespace Ev
open PySem L2 PySem.Spec PyProof.Rows
theorem start3 {m : Nat} {ns : List Int} {n1 n2 K : Int} (K0 : 0 ≤ K) (K1 : K ≤ 100000000) (hl : ns.length ≤ 63) (hb : ∀ z ∈ ns, Builtin.Int.intBits z ≤ 1048576) (h1 : 0 < n1) (l1 : n1 < 2 ^ 30) (h2 : 0 < n2) (l2 : n2 < 2 ^ 30) :
    ∃ (s0 s1 : Slot) (soft : Bool) (part : Int), 0 ≤ part ∧ part < n2 ∧ ∀ r : S, sSeq (sSet 1 (eCall (boxM K) (aCons (eCall cellsM (aCons (eVar 0) (aCons (eK (.int 1)) aNil))) (aCons (eK (.int 0)) aNil)))) (sSeq (sPar 2 3 (eOp2 dEq (eCallU takeM 0 (aCons (eVar 1) (aCons (eK (.int n1)) aNil))) (eK (.int 0))) (eCallU takeM 0 (aCons (eVar 1) (aCons (eK (.int n2)) aNil)))) r) ([.val (.list (ns.map PyData.int))] ++ List.replicate (m + 3) .un) =
      r (s0 :: s1 :: .val (.bool soft) :: .val (.int part) :: List.replicate m .un) := by
  obtain ⟨c, a, b, ρ1, ρ2, e1, e2, U⟩ := start_ok K0 K1 hl hb
  generalize ns.map PyData.int = L at e1 ⊢
  obtain ⟨r1, a1, c1, t1, _, _, U1⟩ := take_ok (k := 999999999) (n := n1) U h1 l1
  obtain ⟨r2, a2, c2, t2, p0, p1, _⟩ := take_ok (k := 999999998) (n := n2) U1 h2 l2
  refine ⟨.val (.list L), urn false false a2 b c2, r1 == 0, r2, p0, p1, fun r => ?_⟩
  have q1 : sSet 1 (eCall (boxM K) (aCons (eCall cellsM (aCons (eVar 0) (aCons (eK (.int 1)) aNil))) (aCons (eK (.int 0)) aNil))) ([.val (.list L)] ++ List.replicate (m + 3) .un) = .ok .nx (.val (.list L) :: urn false false a b 0 :: .un :: .un :: List.replicate m .un) := by
    simp [sSet, eCall, aCons, aNil, bnd, eVar, eK, Ev.ret, lift, pin, escs, esc, e1, e2, Rt.rv, st, stT, free1, List.replicate_succ, urn]
  have q2 : sPar 2 3 (eOp2 dEq (eCallU takeM 0 (aCons (eVar 1) (aCons (eK (.int n1)) aNil))) (eK (.int 0))) (eCallU takeM 0 (aCons (eVar 1) (aCons (eK (.int n2)) aNil))) (.val (.list L) :: urn false false a b 0 :: .un :: .un :: List.replicate m .un) = .ok .nx (.val (.list L) :: urn false false a2 b c2 :: .val (.bool (r1 == 0)) :: .val (.int r2) :: List.replicate m .un) := by
    simp [sPar, eOp2, eCallU, callU, aCons, aNil, bnd, eVar, eK, Ev.ret, lift, pin, escs, esc, t1, t2, Rt.rv, st, stV, free1, der, outRV, dEq_int, urn]
  rw [seq_nx q1, seq_nx q2]
theorem ref_iRg {bb : Bool} {m : Nat} {g : List D → Option Src} {as as' : M (List RV)} (a : Ref bb m as as') : Ref bb (m + 0) (iRg g as) (iRg g as') := ref_bnd a fun rs => ref_ask (q := fun ρ => ders ρ rs) (h := g) (fun rest x e => ders_un e) fun ρ => by
  cases ders ρ rs with
  | none => rfl
  | some ds => cases q : g ds <;> simp [q]
def okT (r : Res Rt) : Bool := match r with
  | .ok (.val (.bool true)) _ => true
  | _ => false
theorem okT_ok {r : Res Rt} (h : okT r = true) : ∃ ρ', r = .ok (.val (.bool true)) ρ' := by
  unfold okT at h
  split at h
  · exact ⟨_, rfl⟩
  · cases h
end Ev

set_option Elab.async false
set_option linter.all false
set_option maxRecDepth 100000
set_option maxHeartbeats 4000000
set_option autoImplicit false
/-! t * n of a tuple, any n -/
namespace Ev
open PySem L2 PySem.Spec PyProof.Rows
theorem mul_same (a : Addr) (xs : Array Value) (i : Nat) (dd : Option Addr) (sv : Array (Option Value)) (k : Int) (tk : Tok) (b0 : (decide (k < -(2 ^ 63)) || decide (k ≥ 2 ^ 63)) = false) (b1 : (xs.isEmpty || k == 1) = true) :
    Meets (Builtin.«tuple.__mul__» ⟨[.ref a, .int k tk], []⟩) (fun _ R s => s.heap.get? a = some { cls := .type "tuple", dict := dd, data := .seq xs i, slots := sv } ∧ R (.ok (.ret (Value.ref a))) s) :=
  .of_wp fun prog w A R s h => by
    obtain ⟨hp, g, d, tt, os⟩ := s
    obtain ⟨hl, h⟩ := h
    have ix := AutoSeq1.idx_int
    wp_walk using wpAny_loadPart' hl
    repeat (first
      | (refine wpAny_ite_false (decide_eq_false (by rw [b0]; exact Bool.false_ne_true)) ?_; wp_walk using wpAny_loadPart' hl)
      | (refine wpAny_ite_true (decide_eq_true (by rw [b1])) ?_; wp_walk using wpAny_loadPart' hl))
    exact ⟨_, rfl, h⟩
theorem mul_none (a : Addr) (xs : Array Value) (i : Nat) (dd : Option Addr) (sv : Array (Option Value)) (k : Int) (tk : Tok) (b0 : (decide (k < -(2 ^ 63)) || decide (k ≥ 2 ^ 63)) = false) (b1 : (xs.isEmpty || k == 1) = false) (b2 : (decide (k ≤ 0) || xs.isEmpty) = true) :
    Meets (Builtin.«tuple.__mul__» ⟨[.ref a, .int k tk], []⟩) (fun _ R s => s.heap.get? a = some { cls := .type "tuple", dict := dd, data := .seq xs i, slots := sv } ∧
      R (.ok (.ret (Value.ref s.heap.objs.size))) { s with heap := s.heap.push { cls := Value.type "tuple", data := Data.seq #[] }, toks := s.toks }) :=
  .of_wp fun prog w A R s h => by
    obtain ⟨hp, g, d, tt, os⟩ := s
    obtain ⟨hl, h⟩ := h
    have ix := AutoSeq1.idx_int
    wp_walk using wpAny_loadPart' hl
    repeat (first
      | (refine wpAny_ite_false (decide_eq_false (by rw [b0]; exact Bool.false_ne_true)) ?_; wp_walk using wpAny_loadPart' hl)
      | (refine wpAny_ite_false (decide_eq_false (by rw [b1]; exact Bool.false_ne_true)) ?_; wp_walk using wpAny_loadPart' hl)
      | (refine wpAny_ite_true (decide_eq_true (by rw [b2])) ?_; wp_walk using wpAny_loadPart' hl))
    exact ⟨_, rfl, h⟩
def dRepT : D → D → Option RR
  | .tuple ds, .int k => if (ds.isEmpty = true ∨ k = 1) ∧ -1000 ≤ k ∧ k ≤ 1000 then some (.sol (.tuple ds)) else if ds.isEmpty = true then none else if k ≤ 0 then (if -1000 ≤ k then some (.sol (.tuple [])) else none) else if k ≤ 1000 ∧ ds.length ≤ 1000 then some (.sol (.tuple (List.replicate k.toNat ds).flatten)) else none
  | _, _ => none
section
variable {X : Cx} {W : WX}
/-- the two cases that make no longer tuple -/
def rRepS (K : PySem.W.Frag) : R2 := fun x y H Q => ∃ l k xs, x = .ref l ∧ y = .int k ∧ SqT K H l xs ∧ -1000 ≤ k ∧ k ≤ 1000 ∧
  (((xs = [] ∨ k = 1) ∧ Q (.ref l) H) ∨ (xs ≠ [] ∧ k ≤ 0 ∧ ∀ p, H p = none → Q (.ref p) (upd H p (.tup []))))
theorem op_repS : OpR X (binaryOp .Mult) (rRepS X.K) := fun pins s σ H x y v u Q I rx ry h => by
  obtain ⟨l, k, xs, rfl, rfl, hT, lo, hi, q⟩ := h
  cases rx
  obtain ⟨t, rfl⟩ := ry
  obtain ⟨its, r, ⟨⟨cls, dd, data, sl⟩, ho, hc, n, hd⟩, hs⟩ := I.tuple hT
  simp only at hc hd
  subst hc hd
  have hle : its.length = xs.length := r.length.symm
  have b0 : (decide (k < -(2 ^ 63)) || decide (k ≥ 2 ^ 63)) = false := by
    have n1 : ¬ k < -(2 ^ 63) := by omega
    have n2 : ¬ k ≥ 2 ^ 63 := by omega
    rw [decide_eq_false n1, decide_eq_false n2]
    rfl
  rcases q with ⟨c, q⟩ | ⟨ne, c, q⟩
  · have b1 : (its.toArray.isEmpty || k == 1) = true := by
      rcases c with rfl | rfl
      · have : its = [] := List.eq_nil_of_length_eq_zero hle
        subst this
        rfl
      · simp
    exact wpAny_binaryOp_repeat_ref (T := "tuple") (U := "int") (by decide) ⟨_, ho, rfl⟩ (fun s' => typeIs_int s' k t) noFill_tuple_mul F.fills_int_mul F.slot_int_rmul repeat_tuple F.slot_int_index.lookup
      (call_meets F.slot_int_rmul (typeIs_int s k t) F.entry_int_rmul (F.args_int_rmul_2 _ _) (int_rmul_tuple k t l its.toArray n dd sl)
        ⟨ho, rfl, ⟨_, ho, rfl⟩, call_meets F.slot_tuple_mul ⟨_, ho, rfl⟩ F.entry_tuple_mul (F.args_tuple_mul_2 _ _) (mul_same l its.toArray n dd sl k t b0 b1) ⟨ho, .ref l, H, I, rfl, q⟩⟩)
  · have hn : its ≠ [] := fun e => ne (by
      rw [e] at hle
      exact List.eq_nil_of_length_eq_zero hle.symm)
    have hi0 : its.toArray.isEmpty = false := by
      cases its with
      | nil => exact absurd rfl hn
      | cons a b => rfl
    have k1 : ¬ k = 1 := by omega
    have b1 : (its.toArray.isEmpty || k == 1) = false := by
      rw [hi0]
      simp [k1]
    have b2 : (decide (k ≤ 0) || its.toArray.isEmpty) = true := by simp [c]
    refine wpAny_binaryOp_repeat_ref (T := "tuple") (U := "int") (by decide) ⟨_, ho, rfl⟩ (fun s' => typeIs_int s' k t) noFill_tuple_mul F.fills_int_mul F.slot_int_rmul repeat_tuple F.slot_int_index.lookup
      (call_meets F.slot_int_rmul (typeIs_int s k t) F.entry_int_rmul (F.args_int_rmul_2 _ _) (int_rmul_tuple k t l its.toArray n dd sl)
        ⟨ho, rfl, ⟨_, ho, rfl⟩, call_meets F.slot_tuple_mul ⟨_, ho, rfl⟩ F.entry_tuple_mul (F.args_tuple_mul_2 _ _) (mul_none l its.toArray n dd sl k t b0 b1 b2) ⟨ho, ?_⟩⟩)
    refine ⟨.ref s.heap.objs.size, _, I.laid (t' := s.toks) (o := .tup []) (fun b ob q => Heap.get?_push_of_some _ q) (Nat.le_refl _) ?_, rfl, q _ (I.hok.fresh (Nat.le_refl _))⟩
    exact ⟨Nat.zero_le _, _, .nil, IsTup.new _ _⟩
theorem op_imp' {o : Value → Value → Sem Value} {r r' : R2} (h : OpR X o r) (i : ∀ x y H Q, r' x y H Q → r x y H Q) : OpR X o r' := fun pins s σ H x y v u Q I rx ry w => h pins s σ H x y v u Q I rx ry (i _ _ _ _ w)
theorem op_repTD : OpR X (binaryOp .Mult) (rD2 X.K dRepT) := op_imp' (op_repS.or op_repT) fun x y H Q ⟨G, d, e, rr, s, dx, dy, g, o⟩ => by
  unfold dRepT at g
  split at g
  · rename_i ds k
    obtain ⟨a, vs, rfl, h1, h2⟩ := dvTup dx
    have ln := dps_len h2
    have y0 := dvInt dy
    by_cases c : (ds.isEmpty = true ∨ k = 1) ∧ -1000 ≤ k ∧ k ≤ 1000
    · rw [if_pos c] at g
      cases g
      refine .inl ⟨a, k, vs, rfl, y0, sqT_mono s h1, c.2.1, c.2.2, .inl ⟨?_, out_sol s o (.tup h1 h2)⟩⟩
      rcases c.1 with c | c
      · left
        cases ds with
        | nil => exact List.eq_nil_of_length_eq_zero ln
        | cons => cases c
      · exact .inr c
    · rw [if_neg c] at g
      by_cases em : ds.isEmpty = true
      · rw [if_pos em] at g; cases g
      rw [if_neg em] at g
      have ne : vs ≠ [] := fun e => em (by
        rw [e] at ln
        cases ds with
        | nil => rfl
        | cons => cases ln)
      by_cases k0 : k ≤ 0
      · rw [if_pos k0] at g
        split at g
        · cases g
          exact .inl ⟨a, k, vs, rfl, y0, sqT_mono s h1, by assumption, by omega, .inr ⟨ne, k0, fun p n => out_tup s o n .nil⟩⟩
        · cases g
      · rw [if_neg k0] at g
        split at g
        · rename_i hk
          cases g
          have k1 : k ≠ 1 := fun e => c ⟨.inr e, by omega, by omega⟩
          exact .inr ⟨a, k, vs, rfl, y0, sqT_mono s h1, ne, by omega, hk.1, by rw [ln]; exact hk.2, fun p n => out_tup s o n (dps_rep h2 _)⟩
        · cases g
  · cases g
end
end Ev

set_option Elab.async false
set_option linter.all false
set_option maxRecDepth 100000
set_option maxHeartbeats 4000000
set_option autoImplicit false
/-! a, b, c = x, y, z; tuples of ints as module constants -/
namespace Ev
open PySem L2 PySem.Spec PyProof.Rows
section
variable {X : Cx} {W : WX} {pos : Pos}
def sPar3 (i j l : Nat) (f g h : M RV) : S := bnd f fun a => bnd (esc a) fun d => bnd g fun b => bnd (esc b) fun e => bnd h fun c => bnd (st l c) fun _ => bnd (stV j e) fun _ => bnd (stV i d) fun _ => ret .nx
theorem sat_stV {α : Type} {i : Nat} {d : D} {k : Unit → M α} {ρ : Rho} {p : α → Rho → Prop} {e : Xc → Rho → Prop} (h : (bnd (stV i d) k ρ).sat p e) : ∃ s, ρ[i]? = some s ∧ free1 s = true ∧ (k () (ρ.set i (.val d))).sat p e := by
  unfold bnd at h
  simp only [stV] at h
  cases q : ρ[i]? with
  | none => simp only [q] at h; exact h.elim
  | some s =>
    simp only [q] at h
    by_cases f : free1 s = true
    · simp only [f, if_true] at h
      exact ⟨s, rfl, f, h⟩
    · simp only [f, if_false, Bool.false_eq_true] at h
      exact h.elim
theorem es_par3 {i j l : Nat} {x y z : Str} {a b c : Expr} {f g h : M RV} {px py pz pt : Pos} {kt k2 pt2} (hc : X.calm = true) (hN : X.N.Nodup) (hi : X.N[i]? = some x) (hj : X.N[j]? = some y) (hl : X.N[l]? = some z) (hij : i ≠ j) (hil : i ≠ l) (hjl : j ≠ l)
    (hx : X.env.scope.names.lookup x = some .local) (hy : X.env.scope.names.lookup y = some .local) (hz : X.env.scope.names.lookup z = some .local) (ha : EV X W a f) (hb : EV X W b g) (hcc : EV X W c h)
    (hw : swappedStores [.Tuple [.Name x px, .Name y py, .Name z pz] kt pt] (.Tuple [a, b, c] k2 pt2) X.env = pure (some [x, y, z]) := by rfl)
    (hs : swapsWithSole [.Tuple [.Name x px, .Name y py, .Name z pz] kt pt] (.Tuple [a, b, c] k2 pt2) pos.line X.env = pure false := by rfl)
    (hs1 : starEach [a, b, c] X.env = (false, eval a X.env) :: starEach [b, c] X.env := by rfl) (hs2 : starEach [b, c] X.env = (false, eval b X.env) :: starEach [c] X.env := by rfl) (hs3 : starEach [c] X.env = (false, eval c X.env) :: starEach [] X.env := by rfl) :
    ES X W (.Assign [.Tuple [.Name x px, .Name y py, .Name z pz] kt pt] (.Tuple [a, b, c] k2 pt2) pos) (sPar3 i j l f g h) := by
  refine ps_imp (ps_par3 hc hN hi hj hl hij hil hjl hx hy hz (pa_cons ha (pa_cons hb (pa_cons hcc pa_nil hs3) hs2) hs1) hw hs) fun D σ H ⟨Z, ρ, E, S⟩ => ?_
  refine rd_of E (sat_bnd S) (fun a ρ1 v1 H1 P1 R1 S1 => ?_) fun x ρ1 cls d H1 P1 X1 e1 => xc_ev (.refl E) e1 P1 X1
  obtain ⟨d, ρ2, q, S2⟩ := sat_esc S1
  obtain ⟨P2, h2⟩ := esc_ok P1.rel R1 q
  refine rd_of P2.rel (sat_bnd S2) (fun b ρ3 v3 H3 P3 R3 S3 => ?_) fun x ρ1 cls d H2 P2' X1 e1 => xc_ev (P1.trans P2).sp e1 P2' X1
  obtain ⟨e, ρ4, q4, S4⟩ := sat_esc S3
  obtain ⟨P4, h4⟩ := esc_ok P3.rel R3 q4
  have PA := (P1.trans P2).trans (P3.trans P4)
  refine rd_of P4.rel (sat_bnd S4) (fun c ρ5 v5 H5 P5 R5 S5 => ?_) fun x ρ1 cls d H2 P2' X1 e1 => xc_ev PA.sp e1 P2' X1
  obtain ⟨ρ6, q6, S6⟩ := sat_st S5
  have P6 := st_ok P5 R5 q6
  have d2 := dp_mono P6.sub (dp_mono (P3.trans P4).sub h2)
  have e2 := dp_mono P6.sub h4
  obtain ⟨s7, g7, f7, S7⟩ := sat_stV S6
  have P7 := SPost.store P6.rel g7 f7 e2
  obtain ⟨s8, g8, f8, S8⟩ := sat_stV S7
  have P8 := SPost.store P7.rel g8 f8 (dp_mono P7.sub d2)
  refine ⟨v1, v3, v5, rfl, ?_⟩
  have co : ((σ.set i (some v1)).set j (some v3)).set l (some v5) = ((σ.set l (some v5)).set j (some v3)).set i (some v1) := by
    rw [List.set_comm _ _ hij, List.set_comm _ _ hil, List.set_comm _ _ hjl]
  rw [co]
  exact S8 _ H5 (((PA.sp.trans P6).trans P7).trans P8)
end
theorem kok_ints {K : PySem.W.Frag} {mg : Str → Option Value} {x : Str} {a : Addr} {o : Obj} {its : Array Value} {n : Nat} {ns : List Int} (hm : mg x = some (.ref a)) (hl : K.lookup a = some o) (hc : o.cls = .type "tuple") (hd : o.data = .seq its n) (hz : its.size ≤ sizeLine)
    (hv : Vals (ns.map V.int) its.toList) : KOk K mg x (.tuple (ns.map PyData.int)) :=
  ⟨.ref a, .ref a, hm, rfl, fun G => .tup (.inr ⟨o, its, n, hl, hc, hd, hz, hv⟩) (dps_ints ns)⟩
end Ev

set_option Elab.async false
set_option linter.all false
set_option maxRecDepth 100000
set_option maxHeartbeats 4000000
set_option autoImplicit false
namespace P63
open PySem L2 PySem.Spec PyProof.Rows Ev
def top (i : Nat) : Stmt := PySem.Challenge.pw_lotsinturn_k63_chances_by_hand_and_refus.main.body.getD i (.Pass ⟨0, 0, 0, 0⟩)
abbrev s__law_box : Stmt := top 72
abbrev N__law_box : List Str := ["script", "k", "cell"]
theorem sc__law_box : FnScope N__law_box ["script", "k"] (defScope s__law_box) := ⟨rfl, rfl, rfl, by decide +kernel, rfl, by decide +kernel, by decide +kernel⟩
abbrev s__law_take : Stmt := top 73
abbrev N__law_take : List Str := ["urn", "below", "once", "far", "twice", "drawn"]
theorem sc__law_take : FnScope N__law_take ["urn", "below"] (defScope s__law_take) := ⟨rfl, rfl, rfl, by decide +kernel, rfl, by decide +kernel, by decide +kernel⟩
abbrev s__law_cells : Stmt := top 74
abbrev N__law_cells : List Str := ["script", "many", "cells", "k", "cell", "at"]
theorem sc__law_cells : FnScope N__law_cells ["script", "many"] (defScope s__law_cells) := ⟨rfl, rfl, rfl, by decide +kernel, rfl, by decide +kernel, by decide +kernel⟩
abbrev s__law_same : Stmt := top 76
abbrev N__law_same : List Str := ["got", "due", "mine", "own"]
theorem sc__law_same : FnScope N__law_same ["got", "due"] (defScope s__law_same) := ⟨rfl, rfl, rfl, by decide +kernel, rfl, by decide +kernel, by decide +kernel⟩
abbrev s_tuple_of : Stmt := top 3
abbrev N_tuple_of : List Str := ["thing", "part"]
theorem sc_tuple_of : FnScope N_tuple_of ["thing"] (defScope s_tuple_of) := ⟨rfl, rfl, rfl, by decide +kernel, rfl, by decide +kernel, by decide +kernel⟩
abbrev s_less : Stmt := top 16
abbrev N_less : List Str := ["x", "y"]
theorem sc_less : FnScope N_less ["x", "y"] (defScope s_less) := ⟨rfl, rfl, rfl, by decide +kernel, rfl, by decide +kernel, by decide +kernel⟩
abbrev s_sure_stretch : Stmt := top 46
abbrev N_sure_stretch : List Str := ["low", "high", "near", "far"]
theorem sc_sure_stretch : FnScope N_sure_stretch ["low", "high"] (defScope s_sure_stretch) := ⟨rfl, rfl, rfl, by decide +kernel, rfl, by decide +kernel, by decide +kernel⟩
abbrev s_lowest : Stmt := top 10
abbrev N_lowest : List Str := ["top", "below", "common"]
theorem sc_lowest : FnScope N_lowest ["top", "below"] (defScope s_lowest) := ⟨rfl, rfl, rfl, by decide +kernel, rfl, by decide +kernel, by decide +kernel⟩
abbrev s_plus : Stmt := top 12
abbrev N_plus : List Str := ["x", "y"]
theorem sc_plus : FnScope N_plus ["x", "y"] (defScope s_plus) := ⟨rfl, rfl, rfl, by decide +kernel, rfl, by decide +kernel, by decide +kernel⟩
abbrev s_times : Stmt := top 14
abbrev N_times : List Str := ["x", "y"]
theorem sc_times : FnScope N_times ["x", "y"] (defScope s_times) := ⟨rfl, rfl, rfl, by decide +kernel, rfl, by decide +kernel, by decide +kernel⟩
abbrev s_curve_in : Stmt := top 31
abbrev N_curve_in : List Str := ["curve", "x", "found", "own"]
theorem sc_curve_in : FnScope N_curve_in ["curve", "x"] (defScope s_curve_in) := ⟨rfl, rfl, rfl, by decide +kernel, rfl, by decide +kernel, by decide +kernel⟩
abbrev s_curve_of : Stmt := top 30
abbrev N_curve_of : List Str := ["row", "found"]
theorem sc_curve_of : FnScope N_curve_of ["row"] (defScope s_curve_of) := ⟨rfl, rfl, rfl, by decide +kernel, rfl, by decide +kernel, by decide +kernel⟩
abbrev s_curve_product : Stmt := top 34
abbrev N_curve_product : List Str := ["curve", "other", "one", "two", "found", "k", "x", "j", "y"]
theorem sc_curve_product : FnScope N_curve_product ["curve", "other"] (defScope s_curve_product) := ⟨rfl, rfl, rfl, by decide +kernel, rfl, by decide +kernel, by decide +kernel⟩
abbrev s_curve_slope : Stmt := top 37
abbrev N_curve_slope : List Str := ["curve", "k", "own"]
theorem sc_curve_slope : FnScope N_curve_slope ["curve"] (defScope s_curve_slope) := ⟨rfl, rfl, rfl, by decide +kernel, rfl, by decide +kernel, by decide +kernel⟩
abbrev s_minus : Stmt := top 13
abbrev N_minus : List Str := ["x", "y"]
theorem sc_minus : FnScope N_minus ["x", "y"] (defScope s_minus) := ⟨rfl, rfl, rfl, by decide +kernel, rfl, by decide +kernel, by decide +kernel⟩
abbrev s_over : Stmt := top 15
abbrev N_over : List Str := ["x", "y"]
theorem sc_over : FnScope N_over ["x", "y"] (defScope s_over) := ⟨rfl, rfl, rfl, by decide +kernel, rfl, by decide +kernel, by decide +kernel⟩
abbrev s_curve_parted : Stmt := top 39
abbrev N_curve_parted : List Str := ["curve", "other", "rest", "found", "k", "j", "own"]
theorem sc_curve_parted : FnScope N_curve_parted ["curve", "other"] (defScope s_curve_parted) := ⟨rfl, rfl, rfl, by decide +kernel, rfl, by decide +kernel, by decide +kernel⟩
abbrev s_curve_times : Stmt := top 35
abbrev N_curve_times : List Str := ["curve", "x"]
theorem sc_curve_times : FnScope N_curve_times ["curve", "x"] (defScope s_curve_times) := ⟨rfl, rfl, rfl, by decide +kernel, rfl, by decide +kernel, by decide +kernel⟩
abbrev s_curve_headed : Stmt := top 40
abbrev N_curve_headed : List Str := ["curve"]
theorem sc_curve_headed : FnScope N_curve_headed ["curve"] (defScope s_curve_headed) := ⟨rfl, rfl, rfl, by decide +kernel, rfl, by decide +kernel, by decide +kernel⟩
abbrev s_curve_common : Stmt := top 41
abbrev N_curve_common : List Str := ["curve", "other", "near", "far"]
theorem sc_curve_common : FnScope N_curve_common ["curve", "other"] (defScope s_curve_common) := ⟨rfl, rfl, rfl, by decide +kernel, rfl, by decide +kernel, by decide +kernel⟩
abbrev s_odd_zeros : Stmt := top 42
abbrev N_odd_zeros : List Str := ["curve", "found", "near", "inner", "left", "is_odd", "more"]
theorem sc_odd_zeros : FnScope N_odd_zeros ["curve"] (defScope s_odd_zeros) := ⟨rfl, rfl, rfl, by decide +kernel, rfl, by decide +kernel, by decide +kernel⟩
abbrev s_sturm_curves : Stmt := top 43
abbrev N_sturm_curves : List Str := ["curve", "found"]
theorem sc_sturm_curves : FnScope N_sturm_curves ["curve"] (defScope s_sturm_curves) := ⟨rfl, rfl, rfl, by decide +kernel, rfl, by decide +kernel, by decide +kernel⟩
abbrev s_turns_of : Stmt := top 44
abbrev N_turns_of : List Str := ["chain", "x", "signs", "own", "near", "far", "curve"]
theorem sc_turns_of : FnScope N_turns_of ["chain", "x"] (defScope s_turns_of) := ⟨rfl, rfl, rfl, by decide +kernel, rfl, by decide +kernel, by decide +kernel⟩
abbrev s_zeros_inside : Stmt := top 45
abbrev N_zeros_inside : List Str := ["chain", "low", "high"]
theorem sc_zeros_inside : FnScope N_zeros_inside ["chain", "low", "high"] (defScope s_zeros_inside) := ⟨rfl, rfl, rfl, by decide +kernel, rfl, by decide +kernel, by decide +kernel⟩
abbrev s_first_off : Stmt := top 47
abbrev N_first_off : List Str := ["curve", "low", "high", "many", "step", "points", "k", "x"]
theorem sc_first_off : FnScope N_first_off ["curve", "low", "high"] (defScope s_first_off) := ⟨rfl, rfl, rfl, by decide +kernel, rfl, by decide +kernel, by decide +kernel⟩
abbrev s_found_dip : Stmt := top 48
abbrev N_found_dip : List Str := ["curve", "low", "high", "end", "chain", "at", "points", "below", "x"]
theorem sc_found_dip : FnScope N_found_dip ["curve", "low", "high"] (defScope s_found_dip) := ⟨rfl, rfl, rfl, by decide +kernel, rfl, by decide +kernel, by decide +kernel⟩
abbrev s_never_dips : Stmt := top 49
abbrev N_never_dips : List Str := ["curve", "low", "high", "near", "far"]
theorem sc_never_dips : FnScope N_never_dips ["curve", "low", "high"] (defScope s_never_dips) := ⟨rfl, rfl, rfl, by decide +kernel, rfl, by decide +kernel, by decide +kernel⟩
abbrev s_dip : Stmt := top 50
abbrev N_dip : List Str := ["curve", "low", "high", "near", "far", "found"]
theorem sc_dip : FnScope N_dip ["curve", "low", "high"] (defScope s_dip) := ⟨rfl, rfl, rfl, by decide +kernel, rfl, by decide +kernel, by decide +kernel⟩
abbrev s_zeros_along : Stmt := top 51
abbrev N_zeros_along : List Str := ["curve", "low", "high", "near", "far", "own", "lone", "chain", "ends", "x"]
theorem sc_zeros_along : FnScope N_zeros_along ["curve", "low", "high"] (defScope s_zeros_along) := ⟨rfl, rfl, rfl, by decide +kernel, rfl, by decide +kernel, by decide +kernel⟩
abbrev s_curve_sum : Stmt := top 33
abbrev N_curve_sum : List Str := ["curve", "other", "one", "two", "many", "near", "far", "x", "y"]
theorem sc_curve_sum : FnScope N_curve_sum ["curve", "other"] (defScope s_curve_sum) := ⟨rfl, rfl, rfl, by decide +kernel, rfl, by decide +kernel, by decide +kernel⟩
abbrev s_curve_less : Stmt := top 36
abbrev N_curve_less : List Str := ["curve", "other"]
theorem sc_curve_less : FnScope N_curve_less ["curve", "other"] (defScope s_curve_less) := ⟨rfl, rfl, rfl, by decide +kernel, rfl, by decide +kernel, by decide +kernel⟩
abbrev s_folk_in : Stmt := top 20
abbrev N_folk_in : List Str := ["roster", "found", "lot", "keeper"]
theorem sc_folk_in : FnScope N_folk_in ["roster"] (defScope s_folk_in) := ⟨rfl, rfl, rfl, by decide +kernel, rfl, by decide +kernel, by decide +kernel⟩
abbrev s_has_within : Stmt := top 18
abbrev N_has_within : List Str := ["lot", "other", "keeper"]
theorem sc_has_within : FnScope N_has_within ["lot", "other"] (defScope s_has_within) := ⟨rfl, rfl, rfl, by decide +kernel, rfl, by decide +kernel, by decide +kernel⟩
abbrev s_up_in : Stmt := top 21
abbrev N_up_in : List Str := ["roster", "some", "lot"]
theorem sc_up_in : FnScope N_up_in ["roster", "some"] (defScope s_up_in) := ⟨rfl, rfl, rfl, by decide +kernel, rfl, by decide +kernel, by decide +kernel⟩
abbrev s_all_sets : Stmt := top 22
abbrev N_all_sets : List Str := ["keepers", "found", "keeper", "own"]
theorem sc_all_sets : FnScope N_all_sets ["keepers"] (defScope s_all_sets) := ⟨rfl, rfl, rfl, by decide +kernel, rfl, by decide +kernel, by decide +kernel⟩
abbrev s_spread_curve : Stmt := top 52
abbrev N_spread_curve : List Str := ["counts", "found", "many", "size", "count", "row", "k"]
theorem sc_spread_curve : FnScope N_spread_curve ["counts"] (defScope s_spread_curve) := ⟨rfl, rfl, rfl, by decide +kernel, rfl, by decide +kernel, by decide +kernel⟩
abbrev s_counts_by_size : Stmt := top 53
abbrev N_counts_by_size : List Str := ["sets", "many", "found", "own"]
theorem sc_counts_by_size : FnScope N_counts_by_size ["sets", "many"] (defScope s_counts_by_size) := ⟨rfl, rfl, rfl, by decide +kernel, rfl, by decide +kernel, by decide +kernel⟩
abbrev s_up_curve : Stmt := top 54
abbrev N_up_curve : List Str := ["roster", "lots", "folk", "own"]
theorem sc_up_curve : FnScope N_up_curve ["roster"] (defScope s_up_curve) := ⟨rfl, rfl, rfl, by decide +kernel, rfl, by decide +kernel, by decide +kernel⟩
abbrev s_no_worse : Stmt := top 61
abbrev N_no_worse : List Str := ["roster", "other", "low", "high"]
theorem sc_no_worse : FnScope N_no_worse ["roster", "other", "low", "high"] (defScope s_no_worse) := ⟨rfl, rfl, rfl, by decide +kernel, rfl, by decide +kernel, by decide +kernel⟩
abbrev s_worse_at : Stmt := top 62
abbrev N_worse_at : List Str := ["roster", "other", "low", "high"]
theorem sc_worse_at : FnScope N_worse_at ["roster", "other", "low", "high"] (defScope s_worse_at) := ⟨rfl, rfl, rfl, by decide +kernel, rfl, by decide +kernel, by decide +kernel⟩
abbrev s_is_number : Stmt := top 2
abbrev N_is_number : List Str := ["thing"]
theorem sc_is_number : FnScope N_is_number ["thing"] (defScope s_is_number) := ⟨rfl, rfl, rfl, by decide +kernel, rfl, by decide +kernel, by decide +kernel⟩
abbrev s_is_tuple_of : Stmt := top 4
abbrev N_is_tuple_of : List Str := ["thing", "many"]
theorem sc_is_tuple_of : FnScope N_is_tuple_of ["thing", "many"] (defScope s_is_tuple_of) := ⟨rfl, rfl, rfl, by decide +kernel, rfl, by decide +kernel, by decide +kernel⟩
abbrev s_is_fraction : Stmt := top 11
abbrev N_is_fraction : List Str := ["thing"]
theorem sc_is_fraction : FnScope N_is_fraction ["thing"] (defScope s_is_fraction) := ⟨rfl, rfl, rfl, by decide +kernel, rfl, by decide +kernel, by decide +kernel⟩
abbrev s_is_worse_at : Stmt := top 63
abbrev N_is_worse_at : List Str := ["roster", "other", "low", "high", "thing", "near", "far"]
theorem sc_is_worse_at : FnScope N_is_worse_at ["roster", "other", "low", "high", "thing"] (defScope s_is_worse_at) := ⟨rfl, rfl, rfl, by decide +kernel, rfl, by decide +kernel, by decide +kernel⟩
abbrev s_even_odds : Stmt := top 64
abbrev N_even_odds : List Str := ["roster", "other", "low", "high", "gap"]
theorem sc_even_odds : FnScope N_even_odds ["roster", "other", "low", "high"] (defScope s_even_odds) := ⟨rfl, rfl, rfl, by decide +kernel, rfl, by decide +kernel, by decide +kernel⟩
abbrev s_least_in : Stmt := top 19
abbrev N_least_in : List Str := ["lots", "some", "lot", "own"]
theorem sc_least_in : FnScope N_least_in ["lots"] (defScope s_least_in) := ⟨rfl, rfl, rfl, by decide +kernel, rfl, by decide +kernel, by decide +kernel⟩
abbrev s_sure_likely : Stmt := top 65
abbrev N_sure_likely : List Str := ["chances", "keepers", "some", "keeper"]
theorem sc_sure_likely : FnScope N_sure_likely ["chances", "keepers"] (defScope s_sure_likely) := ⟨rfl, rfl, rfl, by decide +kernel, rfl, by decide +kernel, by decide +kernel⟩
abbrev s_chance_just : Stmt := top 57
abbrev N_chance_just : List Str := ["folk", "some", "chances", "found", "keeper", "own"]
theorem sc_chance_just : FnScope N_chance_just ["folk", "some", "chances"] (defScope s_chance_just) := ⟨rfl, rfl, rfl, by decide +kernel, rfl, by decide +kernel, by decide +kernel⟩
abbrev s_likelier_sets : Stmt := top 66
abbrev N_likelier_sets : List Str := ["chances", "some", "found", "own", "rest", "here", "there", "keeper"]
theorem sc_likelier_sets : FnScope N_likelier_sets ["chances", "some"] (defScope s_likelier_sets) := ⟨rfl, rfl, rfl, by decide +kernel, rfl, by decide +kernel, by decide +kernel⟩
abbrev s_likelier_roster : Stmt := top 67
abbrev N_likelier_roster : List Str := ["chances", "keepers"]
theorem sc_likelier_roster : FnScope N_likelier_roster ["chances", "keepers"] (defScope s_likelier_roster) := ⟨rfl, rfl, rfl, by decide +kernel, rfl, by decide +kernel, by decide +kernel⟩
abbrev s_chance_of_sets : Stmt := top 58
abbrev N_chance_of_sets : List Str := ["folk", "sets", "chances", "found", "own"]
theorem sc_chance_of_sets : FnScope N_chance_of_sets ["folk", "sets", "chances"] (defScope s_chance_of_sets) := ⟨rfl, rfl, rfl, by decide +kernel, rfl, by decide +kernel, by decide +kernel⟩
abbrev s_likelier_chance : Stmt := top 68
abbrev N_likelier_chance : List Str := ["chances", "keepers", "some"]
theorem sc_likelier_chance : FnScope N_likelier_chance ["chances", "keepers"] (defScope s_likelier_chance) := ⟨rfl, rfl, rfl, by decide +kernel, rfl, by decide +kernel, by decide +kernel⟩
abbrev s_first_apart_pair : Stmt := top 23
abbrev N_first_apart_pair : List Str := ["roster", "other", "lot", "own", "keeper"]
theorem sc_first_apart_pair : FnScope N_first_apart_pair ["roster", "other"] (defScope s_first_apart_pair) := ⟨rfl, rfl, rfl, by decide +kernel, rfl, by decide +kernel, by decide +kernel⟩
abbrev s_meet_each : Stmt := top 24
abbrev N_meet_each : List Str := ["roster", "other"]
theorem sc_meet_each : FnScope N_meet_each ["roster", "other"] (defScope s_meet_each) := ⟨rfl, rfl, rfl, by decide +kernel, rfl, by decide +kernel, by decide +kernel⟩
abbrev s_meets_itself : Stmt := top 25
abbrev N_meets_itself : List Str := ["roster"]
theorem sc_meets_itself : FnScope N_meets_itself ["roster"] (defScope s_meets_itself) := ⟨rfl, rfl, rfl, by decide +kernel, rfl, by decide +kernel, by decide +kernel⟩
abbrev s_up_chance : Stmt := top 59
abbrev N_up_chance : List Str := ["roster", "chances", "lots", "folk", "own"]
theorem sc_up_chance : FnScope N_up_chance ["roster", "chances"] (defScope s_up_chance) := ⟨rfl, rfl, rfl, by decide +kernel, rfl, by decide +kernel, by decide +kernel⟩
abbrev s_is_likeliest : Stmt := top 69
abbrev N_is_likeliest : List Str := ["roster", "chances", "keepers", "lots", "some", "keeper"]
theorem sc_is_likeliest : FnScope N_is_likeliest ["roster", "chances", "keepers"] (defScope s_is_likeliest) := ⟨rfl, rfl, rfl, by decide +kernel, rfl, by decide +kernel, by decide +kernel⟩
abbrev s__law_try : Stmt := top 82
abbrev N__law_try : List Str := ["door", "one", "other", "low", "high", "raised", "found", "error"]
theorem sc__law_try : FnScope N__law_try ["door", "one", "other", "low", "high"] (defScope s__law_try) := ⟨rfl, rfl, rfl, by decide +kernel, rfl, by decide +kernel, by decide +kernel⟩
abbrev s_is_curve : Stmt := top 29
abbrev N_is_curve : List Str := ["thing", "own"]
theorem sc_is_curve : FnScope N_is_curve ["thing"] (defScope s_is_curve) := ⟨rfl, rfl, rfl, by decide +kernel, rfl, by decide +kernel, by decide +kernel⟩
abbrev s_curve_at : Stmt := top 32
abbrev N_curve_at : List Str := ["curve", "x"]
theorem sc_curve_at : FnScope N_curve_at ["curve", "x"] (defScope s_curve_at) := ⟨rfl, rfl, rfl, by decide +kernel, rfl, by decide +kernel, by decide +kernel⟩
abbrev s_curve_mirrored : Stmt := top 38
abbrev N_curve_mirrored : List Str := ["curve", "found", "own"]
theorem sc_curve_mirrored : FnScope N_curve_mirrored ["curve"] (defScope s_curve_mirrored) := ⟨rfl, rfl, rfl, by decide +kernel, rfl, by decide +kernel, by decide +kernel⟩
abbrev s__law_soft : Stmt := top 75
abbrev N__law_soft : List Str := ["matter", "bit"]
theorem sc__law_soft : FnScope N__law_soft ["matter"] (defScope s__law_soft) := ⟨rfl, rfl, rfl, by decide +kernel, rfl, by decide +kernel, by decide +kernel⟩
abbrev s__law_less : Stmt := top 80
abbrev N__law_less : List Str := ["one", "other"]
theorem sc__law_less : FnScope N__law_less ["one", "other"] (defScope s__law_less) := ⟨rfl, rfl, rfl, by decide +kernel, rfl, by decide +kernel, by decide +kernel⟩
abbrev s__law_over : Stmt := top 77
abbrev N__law_over : List Str := ["top", "bottom", "one", "other"]
theorem sc__law_over : FnScope N__law_over ["top", "bottom"] (defScope s__law_over) := ⟨rfl, rfl, rfl, by decide +kernel, rfl, by decide +kernel, by decide +kernel⟩
abbrev s__law_plus : Stmt := top 78
abbrev N__law_plus : List Str := ["one", "other"]
theorem sc__law_plus : FnScope N__law_plus ["one", "other"] (defScope s__law_plus) := ⟨rfl, rfl, rfl, by decide +kernel, rfl, by decide +kernel, by decide +kernel⟩
abbrev s__law_times : Stmt := top 79
abbrev N__law_times : List Str := ["one", "other"]
theorem sc__law_times : FnScope N__law_times ["one", "other"] (defScope s__law_times) := ⟨rfl, rfl, rfl, by decide +kernel, rfl, by decide +kernel, by decide +kernel⟩
abbrev s__law_at : Stmt := top 81
abbrev N__law_at : List Str := ["curve", "x", "found", "own"]
theorem sc__law_at : FnScope N__law_at ["curve", "x"] (defScope s__law_at) := ⟨rfl, rfl, rfl, by decide +kernel, rfl, by decide +kernel, by decide +kernel⟩
abbrev s__law_curves_right : Stmt := top 83
abbrev N__law_curves_right : List Str := ["soft", "touch", "low", "cross", "given", "none", "one", "half", "things", "got", "due", "curve", "start", "end", "x", "own"]
theorem sc__law_curves_right : FnScope N__law_curves_right ["soft"] (defScope s__law_curves_right) := ⟨rfl, rfl, rfl, by decide +kernel, rfl, by decide +kernel, by decide +kernel⟩
abbrev s_deciding_sets : Stmt := top 55
abbrev N_deciding_sets : List Str := ["lots", "keeper", "others", "own"]
theorem sc_deciding_sets : FnScope N_deciding_sets ["lots", "keeper"] (defScope s_deciding_sets) := ⟨rfl, rfl, rfl, by decide +kernel, rfl, by decide +kernel, by decide +kernel⟩
abbrev s_deciding_curve : Stmt := top 56
abbrev N_deciding_curve : List Str := ["roster", "keeper", "lots", "others", "own"]
theorem sc_deciding_curve : FnScope N_deciding_curve ["roster", "keeper"] (defScope s_deciding_curve) := ⟨rfl, rfl, rfl, by decide +kernel, rfl, by decide +kernel, by decide +kernel⟩
abbrev s_deciding_chance : Stmt := top 60
abbrev N_deciding_chance : List Str := ["roster", "keeper", "chances", "lots", "others", "own"]
theorem sc_deciding_chance : FnScope N_deciding_chance ["roster", "keeper", "chances"] (defScope s_deciding_chance) := ⟨rfl, rfl, rfl, by decide +kernel, rfl, by decide +kernel, by decide +kernel⟩
abbrev s_more_than_half : Stmt := top 70
abbrev N_more_than_half : List Str := ["keepers", "some", "own"]
theorem sc_more_than_half : FnScope N_more_than_half ["keepers"] (defScope s_more_than_half) := ⟨rfl, rfl, rfl, by decide +kernel, rfl, by decide +kernel, by decide +kernel⟩
abbrev s__law_rosters_right : Stmt := top 84
abbrev N__law_rosters_right : List Str := ["soft", "two_of", "pairs", "lone", "unlike", "given", "none", "one", "half", "got", "due", "things", "even", "own"]
theorem sc__law_rosters_right : FnScope N__law_rosters_right ["soft"] (defScope s__law_rosters_right) := ⟨rfl, rfl, rfl, by decide +kernel, rfl, by decide +kernel, by decide +kernel⟩
abbrev s_law : Stmt := top 85
abbrev N_law : List Str := ["script", "urn", "soft", "part", "two_of", "lone", "line", "rows", "got", "low", "high", "poor", "door"]
theorem sc_law : FnScope N_law ["script"] (defScope s_law) := ⟨rfl, rfl, rfl, by decide +kernel, rfl, by decide +kernel, by decide +kernel⟩
abbrev Has (K : PySem.W.Frag) (mg : Str → Option Value) (x : Str) (st : Stmt) : Prop := ∃ f fd, mg x = some (.ref f) ∧ Fun K x x st f fd
def known : List Str := ["CanNot", "Unfit"]
def mX : Str → Str → Option Bool := fun a b => if known.contains a && known.contains b then some (decide (a = b)) else none
theorem mX_is {a b : Str} (h : mX a b = some true) : a = b := by
  unfold mX at h
  split at h
  · simpa using h
  · cases h
theorem z_of {mg : Str → Option Value} {x xc : Str} {C : Addr} {cls : Value} {oe : Obj} (hx : mg x = some (.ref C)) (h0 : mX xc x = some true) (h1 : mg xc = some cls) (hz : Zc cls none oe) : Zc (.ref C) none oe := by
  rw [mX_is h0, hx] at h1
  cases h1
  exact hz
def k_HALF : D := .tuple [.int 1, .int 2]
def k_NOTHING : D := .tuple [.int 0, .int 1]
def k_WHOLE : D := .tuple [.int 1, .int 1]
structure Txt (K : PySem.W.Frag) (mg : Str → Option Value) : Prop where
  b_ValueError : mg "ValueError" = none
  b_abs : mg "abs" = none
  b_all : mg "all" = none
  b_any : mg "any" = none
  b_bool : mg "bool" = none
  b_enumerate : mg "enumerate" = none
  b_int : mg "int" = none
  b_isinstance : mg "isinstance" = none
  b_len : mg "len" = none
  b_list : mg "list" = none
  b_max : mg "max" = none
  b_range : mg "range" = none
  b_reversed : mg "reversed" = none
  b_set : mg "set" = none
  b_sorted : mg "sorted" = none
  b_str : mg "str" = none
  b_tuple : mg "tuple" = none
  b_zip : mg "zip" = none
  g_gcd : mg "gcd" = some (.builtin "math.gcd")
  e_CanNot : ∃ C, ExcOk K mg "CanNot" C
  e_Unfit : ∃ C, ExcOk K mg "Unfit" C
  x_all : ∀ (a b : Str) (k : Bool), mX a b = some k → ∀ (ca : Value) (C : Addr), mg a = some ca → mg b = some (.ref C) → PySem.W.exmOne K ca (.ref C) = some k
  c_CanNot : ExcC K e_CanNot.choose
  c_Unfit : ExcC K e_Unfit.choose
  i_CanNot_ValueError : PySem.W.kitOne K (.ref e_CanNot.choose) (.type "ValueError") = some true
  i_Unfit_ValueError : PySem.W.kitOne K (.ref e_Unfit.choose) (.type "ValueError") = some true
  k_HALF : KOk K mg "HALF" k_HALF
  k_NOTHING : KOk K mg "NOTHING" k_NOTHING
  k_WHOLE : KOk K mg "WHOLE" k_WHOLE
  d__law_box : Has K mg "_law_box" s__law_box
  d__law_take : Has K mg "_law_take" s__law_take
  d__law_cells : Has K mg "_law_cells" s__law_cells
  d__law_same : Has K mg "_law_same" s__law_same
  d_tuple_of : Has K mg "tuple_of" s_tuple_of
  d_less : Has K mg "less" s_less
  d_sure_stretch : Has K mg "sure_stretch" s_sure_stretch
  d_lowest : Has K mg "lowest" s_lowest
  d_plus : Has K mg "plus" s_plus
  d_times : Has K mg "times" s_times
  d_curve_in : Has K mg "curve_in" s_curve_in
  d_curve_of : Has K mg "curve_of" s_curve_of
  d_curve_product : Has K mg "curve_product" s_curve_product
  d_curve_slope : Has K mg "curve_slope" s_curve_slope
  d_minus : Has K mg "minus" s_minus
  d_over : Has K mg "over" s_over
  d_curve_parted : Has K mg "curve_parted" s_curve_parted
  d_curve_times : Has K mg "curve_times" s_curve_times
  d_curve_headed : Has K mg "curve_headed" s_curve_headed
  d_curve_common : Has K mg "curve_common" s_curve_common
  d_odd_zeros : Has K mg "odd_zeros" s_odd_zeros
  d_sturm_curves : Has K mg "sturm_curves" s_sturm_curves
  d_turns_of : Has K mg "turns_of" s_turns_of
  d_zeros_inside : Has K mg "zeros_inside" s_zeros_inside
  d_first_off : Has K mg "first_off" s_first_off
  d_found_dip : Has K mg "found_dip" s_found_dip
  d_never_dips : Has K mg "never_dips" s_never_dips
  d_dip : Has K mg "dip" s_dip
  d_zeros_along : Has K mg "zeros_along" s_zeros_along
  d_curve_sum : Has K mg "curve_sum" s_curve_sum
  d_curve_less : Has K mg "curve_less" s_curve_less
  d_folk_in : Has K mg "folk_in" s_folk_in
  d_has_within : Has K mg "has_within" s_has_within
  d_up_in : Has K mg "up_in" s_up_in
  d_all_sets : Has K mg "all_sets" s_all_sets
  d_spread_curve : Has K mg "spread_curve" s_spread_curve
  d_counts_by_size : Has K mg "counts_by_size" s_counts_by_size
  d_up_curve : Has K mg "up_curve" s_up_curve
  d_no_worse : Has K mg "no_worse" s_no_worse
  d_worse_at : Has K mg "worse_at" s_worse_at
  d_is_number : Has K mg "is_number" s_is_number
  d_is_tuple_of : Has K mg "is_tuple_of" s_is_tuple_of
  d_is_fraction : Has K mg "is_fraction" s_is_fraction
  d_is_worse_at : Has K mg "is_worse_at" s_is_worse_at
  d_even_odds : Has K mg "even_odds" s_even_odds
  d_least_in : Has K mg "least_in" s_least_in
  d_sure_likely : Has K mg "sure_likely" s_sure_likely
  d_chance_just : Has K mg "chance_just" s_chance_just
  d_likelier_sets : Has K mg "likelier_sets" s_likelier_sets
  d_likelier_roster : Has K mg "likelier_roster" s_likelier_roster
  d_chance_of_sets : Has K mg "chance_of_sets" s_chance_of_sets
  d_likelier_chance : Has K mg "likelier_chance" s_likelier_chance
  d_first_apart_pair : Has K mg "first_apart_pair" s_first_apart_pair
  d_meet_each : Has K mg "meet_each" s_meet_each
  d_meets_itself : Has K mg "meets_itself" s_meets_itself
  d_up_chance : Has K mg "up_chance" s_up_chance
  d_is_likeliest : Has K mg "is_likeliest" s_is_likeliest
  d__law_try : Has K mg "_law_try" s__law_try
  d_is_curve : Has K mg "is_curve" s_is_curve
  d_curve_at : Has K mg "curve_at" s_curve_at
  d_curve_mirrored : Has K mg "curve_mirrored" s_curve_mirrored
  d__law_soft : Has K mg "_law_soft" s__law_soft
  d__law_less : Has K mg "_law_less" s__law_less
  d__law_over : Has K mg "_law_over" s__law_over
  d__law_plus : Has K mg "_law_plus" s__law_plus
  d__law_times : Has K mg "_law_times" s__law_times
  d__law_at : Has K mg "_law_at" s__law_at
  d__law_curves_right : Has K mg "_law_curves_right" s__law_curves_right
  d_deciding_sets : Has K mg "deciding_sets" s_deciding_sets
  d_deciding_curve : Has K mg "deciding_curve" s_deciding_curve
  d_deciding_chance : Has K mg "deciding_chance" s_deciding_chance
  d_more_than_half : Has K mg "more_than_half" s_more_than_half
  d__law_rosters_right : Has K mg "_law_rosters_right" s__law_rosters_right
  d_law : Has K mg "law" s_law
section
variable {P : Program} {w : World} {K : PySem.W.Frag} {mg : Str → Option Value} {base : Heap}
def b__law_box : S := sSeq (sSet 2 (eIf (tBool (eOp2 dLt (eVar 1) (eB (on1 dLen) (aCons (eVar 0) (aNil))))) (eOp2 dIx (eVar 0) (eVar 1)) (eK (.int 0)))) (sRet (eLst (aCons (eOp2 dMul (eB (on1 dAbs) (aCons (eVar 2) (aNil))) (eB (on1 dInt) (aCons (eOp2 dGe (eB (on1 dAbs) (aCons (eVar 2) (aNil))) (eOp2 dPow (eK (.int 10)) (eK (.int 18)))) (aNil)))) (aCons (eOp2 dAdd (eOp2 dAdd (eOp2 dMod (eB (on1 dInt) (aCons (eVar 2) (aNil))) (eK (.int 2305843009213693951))) (eOp2 dMul (eK (.int 39373)) (eVar 1))) (eK (.int 19308630))) (aCons (eK (.int 0)) (aNil))))))
def m__law_box : Fn := bodyF 1 b__law_box
theorem d__law_box (T : Txt K mg) : DefS P w K mg base 1 "_law_box" s__law_box ["script", "k"] m__law_box := by
  obtain ⟨f, fd, hm, Fu⟩ := T.d__law_box
  refine ⟨f, fd, fn_ok (k := 0) (m := 1) (body := b__law_box) Fu sc__law_box rfl rfl fun cdv A outer s H E hr => ?_, hm, Fu⟩
  exact es_cons (es_set (i := 2) sc__law_box.nd rfl (Or.inl rfl) (ev_if (et_cmp (op_ltD (hu64 hr)) (by rfl) (ev_var (pv 1)) (ev_B cr_lenD (by rfl) T.b_len PySem.boot_len (ea_cons (ev_var (pv 0)) (ea_nil)))) (ev_ix (fun _ _ => rfl) (ev_var (pv 0)) (ev_var (pv 1))) (ev_int))) (es_one (es_ret (ev_lst (ea_cons (ev_op op_mulD (ev_B cr_absD (by rfl) T.b_abs boot_abs (ea_cons (ev_var (pv 2)) (ea_nil))) (ev_Ty cr_intD (by rfl) T.b_int PyProof.Rows.boot_int (ea_cons (ev_cmp (op_geD (hu64 hr)) (by rfl) (ev_B cr_absD (by rfl) T.b_abs boot_abs (ea_cons (ev_var (pv 2)) (ea_nil))) (ev_op op_powD (ev_int) (ev_int))) (ea_nil)))) (ea_cons (ev_op op_addD (ev_op op_addD (ev_op op_modD (ev_Ty cr_intD (by rfl) T.b_int PyProof.Rows.boot_int (ea_cons (ev_var (pv 2)) (ea_nil))) (ev_int)) (ev_op op_mulD (ev_int) (ev_var (pv 1)))) (ev_int)) (ea_cons (ev_int) (ea_nil)))))))
theorem o__law_box (T : Txt K mg) : DefOk P w K mg base 1 "_law_box" ["script", "k"] m__law_box := (d__law_box T).ok (fun _ _ _ _ _ _ us hl => match us, hl with | [_, _], _ => rfl)
def b__law_take : S := sSeq (sIf (tBool (eOp2 dGt (eOp2 dIx (eVar 0) (eK (.int 0))) (eK (.int 0)))) (sSeq (sSet 5 (eOp2 dMod (eB (on1 dInt) (aCons (eOp2 dIx (eVar 0) (eK (.int 0))) (aNil))) (eVar 1))) (sSeq (sSub 0 (eK (.int 0)) (eOp2 dDiv (eOp2 dIx (eVar 0) (eK (.int 0))) (eVar 1))) (sRet (eVar 5)))) (sNx)) (sSeq (sSub 0 (eK (.int 2)) (eOp2 dAdd (eOp2 dIx (eVar 0) (eK (.int 2))) (eK (.int 1)))) (sSeq (sSet 2 (eOp2 dMod (eB (on1 dInt) (aCons (eOp2 dMul (eOp2 dAdd (eOp2 dIx (eVar 0) (eK (.int 1))) (eOp2 dMul (eK (.int 48271)) (eOp2 dIx (eVar 0) (eK (.int 2))))) (eOp2 dAdd (eK (.int 39373)) (eOp2 dIx (eVar 0) (eK (.int 2))))) (aNil))) (eK (.int 2147483647)))) (sSeq (sSet 3 (eOp2 dAdd (eOp2 dMod (eB (on1 dInt) (aCons (eVar 2) (aNil))) (eK (.int 40009))) (eK (.int 7)))) (sSeq (sSet 4 (eOp2 dMod (eB (on1 dInt) (aCons (eOp2 dMul (eOp2 dAdd (eOp2 dAdd (eVar 2) (eOp2 dIx (eVar 0) (eK (.int 2)))) (eOp2 dDiv (eOp2 dIx (eVar 0) (eK (.int 1))) (eK (.int 1000003)))) (eVar 3)) (aNil))) (eK (.int 2147483629)))) (sRet (eOp2 dMod (eB (on1 dInt) (aCons (eOp2 dDiv (eOp2 dMod (eB (on1 dInt) (aCons (eOp2 dAdd (eOp2 dMul (eVar 4) (eK (.int 48271))) (eVar 2)) (aNil))) (eK (.int 2147483587))) (eK (.int 64))) (aNil))) (eVar 1)))))))
def m__law_take : Fn := bodyF 4 b__law_take
theorem d__law_take (T : Txt K mg) : DefS P w K mg base 1 "_law_take" s__law_take ["urn", "below"] m__law_take := by
  obtain ⟨f, fd, hm, Fu⟩ := T.d__law_take
  refine ⟨f, fd, fn_ok (k := 0) (m := 4) (body := b__law_take) Fu sc__law_take rfl rfl fun cdv A outer s H E hr => ?_, hm, Fu⟩
  exact es_cons (es_if (et_cmp (op_gtD (hu64 hr)) (by rfl) (ev_ix (fun _ _ => rfl) (ev_var (pv 0)) (ev_int)) (ev_int)) (es_cons (es_set (i := 5) sc__law_take.nd rfl (Or.inl rfl) (ev_op op_modD (ev_Ty cr_intD (by rfl) T.b_int PyProof.Rows.boot_int (ea_cons (ev_ix (fun _ _ => rfl) (ev_var (pv 0)) (ev_int)) (ea_nil))) (ev_var (pv 1)))) (es_cons (es_sub (i := 0) (pv 0) (ev_int) (ev_op op_divD (ev_ix (fun _ _ => rfl) (ev_var (pv 0)) (ev_int)) (ev_var (pv 1)))) (es_one (es_ret (ev_var (pv 5)))))) (es_nil)) (es_cons (es_sub (i := 0) (pv 0) (ev_int) (ev_op op_addD (ev_ix (fun _ _ => rfl) (ev_var (pv 0)) (ev_int)) (ev_int))) (es_cons (es_set (i := 2) sc__law_take.nd rfl (Or.inl rfl) (ev_op op_modD (ev_Ty cr_intD (by rfl) T.b_int PyProof.Rows.boot_int (ea_cons (ev_op op_mulD (ev_op op_addD (ev_ix (fun _ _ => rfl) (ev_var (pv 0)) (ev_int)) (ev_op op_mulD (ev_int) (ev_ix (fun _ _ => rfl) (ev_var (pv 0)) (ev_int)))) (ev_op op_addD (ev_int) (ev_ix (fun _ _ => rfl) (ev_var (pv 0)) (ev_int)))) (ea_nil))) (ev_int))) (es_cons (es_set (i := 3) sc__law_take.nd rfl (Or.inl rfl) (ev_op op_addD (ev_op op_modD (ev_Ty cr_intD (by rfl) T.b_int PyProof.Rows.boot_int (ea_cons (ev_var (pv 2)) (ea_nil))) (ev_int)) (ev_int))) (es_cons (es_set (i := 4) sc__law_take.nd rfl (Or.inl rfl) (ev_op op_modD (ev_Ty cr_intD (by rfl) T.b_int PyProof.Rows.boot_int (ea_cons (ev_op op_mulD (ev_op op_addD (ev_op op_addD (ev_var (pv 2)) (ev_ix (fun _ _ => rfl) (ev_var (pv 0)) (ev_int))) (ev_op op_divD (ev_ix (fun _ _ => rfl) (ev_var (pv 0)) (ev_int)) (ev_int))) (ev_var (pv 3))) (ea_nil))) (ev_int))) (es_one (es_ret (ev_op op_modD (ev_Ty cr_intD (by rfl) T.b_int PyProof.Rows.boot_int (ea_cons (ev_op op_divD (ev_op op_modD (ev_Ty cr_intD (by rfl) T.b_int PyProof.Rows.boot_int (ea_cons (ev_op op_addD (ev_op op_mulD (ev_var (pv 4)) (ev_int)) (ev_var (pv 2))) (ea_nil))) (ev_int)) (ev_int)) (ea_nil))) (ev_var (pv 1)))))))))
theorem o__law_take (T : Txt K mg) : DefOk P w K mg base 1 "_law_take" ["urn", "below"] m__law_take := (d__law_take T).ok (fun _ _ _ _ _ _ us hl => match us, hl with | [_, _], _ => rfl)
def b__law_cells : S := sSeq (sSet 2 (eOrV (eB (on1 dList) (aCons (eCut (eVar 0) (Ev.ret none) (bSome (eVar 1))) (aNil))) (eLst (aCons (eK (.int 0)) (aNil))))) (sSeq (sFor (iEnm (aCons (eCut (eVar 0) (bSome (eVar 1)) (bSome (eK (.int 63)))) (aNil))) (bTp [bNm 3, bNm 4]) (sSeq (sSet 5 (eOp2 dMod (eB (on1 dInt) (aCons (eVar 3) (aNil))) (eVar 1))) (sSub 2 (eVar 5) (eOp2 dAdd (eOp2 dIx (eVar 2) (eVar 5)) (eOp2 dMul (eVar 4) (eOp2 dAdd (eVar 3) (eK (.int 2)))))))) (sRet (eVar 2)))
def m__law_cells : Fn := bodyF 4 b__law_cells
theorem d__law_cells (T : Txt K mg) : DefS P w K mg base 1 "_law_cells" s__law_cells ["script", "many"] m__law_cells := by
  obtain ⟨f, fd, hm, Fu⟩ := T.d__law_cells
  refine ⟨f, fd, fn_ok (k := 0) (m := 4) (body := b__law_cells) Fu sc__law_cells rfl rfl fun cdv A outer s H E hr => ?_, hm, Fu⟩
  exact es_cons (es_set (i := 2) sc__law_cells.nd rfl (Or.inl rfl) (ev_or (ev_Ty cr_listD (by rfl) T.b_list PyProof.Rows.boot_list (ea_cons (ev_cut (ev_var (pv 0)) (eb_none) (eb_some (ev_var (pv 1)))) (ea_nil))) (ev_one (ev_lst (ea_cons (ev_int) (ea_nil)))))) (es_cons (es_for (js := [3, 4]) (passes_of rfl) rfl (ei_enum (by rfl) T.b_enumerate (ea_cons (ev_cut (ev_var (pv 0)) (eb_some (ev_var (pv 1))) (eb_some (ev_int))) (ea_nil))) (tb_tp rfl (tbs_cons (tb_nm (pg_name (i := 3) sc__law_cells.nd rfl (Or.inl rfl))) (tbs_cons (tb_nm (pg_name (i := 4) sc__law_cells.nd rfl (Or.inl rfl))) (tbs_nil))) rfl) (es_cons (es_set (i := 5) sc__law_cells.nd rfl (Or.inl rfl) (ev_op op_modD (ev_Ty cr_intD (by rfl) T.b_int PyProof.Rows.boot_int (ea_cons (ev_var (pv 3)) (ea_nil))) (ev_var (pv 1)))) (es_one (es_sub (i := 2) (pv 2) (ev_var (pv 5)) (ev_op op_addD (ev_ix (fun _ _ => rfl) (ev_var (pv 2)) (ev_var (pv 5))) (ev_op op_mulD (ev_var (pv 4)) (ev_op op_addD (ev_var (pv 3)) (ev_int)))))))) (es_one (es_ret (ev_var (pv 2)))))
theorem o__law_cells (T : Txt K mg) : DefOk P w K mg base 1 "_law_cells" ["script", "many"] m__law_cells := (d__law_cells T).ok (fun _ _ _ _ _ _ us hl => match us, hl with | [_, _], _ => rfl)
def b__law_same (rec : Fn) : S := sSeq (sIf (tTr (eIsG isLT (eVar 1))) (sSeq (sIf (tOrM (tBool (eOp2 dNe (eOp1 isLi (eVar 0)) (eOp1 isLi (eVar 1)))) (tBool (eOp2 dNe (eOp1 isTu (eVar 0)) (eOp1 isTu (eVar 1))))) (sRet (eK (.bool false))) (sNx)) (sRet (eAndV (eOp2 dEq (eB (on1 dLen) (aCons (eVar 0) (aNil))) (eB (on1 dLen) (aCons (eVar 1) (aNil)))) (eB (on1 dAll) (aCons (eLc [2, 3] (iZip (aCons (eVar 0) (aCons (eVar 1) (aNil)))) (bTp [bNm 2, bNm 3]) (Ev.ret true) (eCall rec (aCons (eVar 2) (aCons (eVar 3) (aNil))))) (aNil)))))) (sNx)) (sSeq (sIf (tOrM (tBool (eOp2 dIs (eVar 1) (eK .none))) (tTr (eIsis ["bool", "str"] (eVar 1)))) (sRet (eAndV (eOp2 dEq (eOp1 isSt (eVar 0)) (eOp1 isSt (eVar 1))) (eAndV (eOp2 dEq (eOp1 isBo (eVar 0)) (eOp1 isBo (eVar 1))) (eAndV (eOp2 dEq (eOp2 dIs (eVar 0) (eK .none)) (eOp2 dIs (eVar 1) (eK .none))) (eOp2 dEq (eVar 0) (eVar 1)))))) (sNx)) (sRet (eAndV (eOp1 isIn (eVar 0)) (eAndV (eNot (eOp1 isBo (eVar 0))) (eOp2 dEq (eVar 0) (eVar 1))))))
def m__law_same : Nat → Fn
  | 0 => fun _ => .bad
  | n + 1 => bodyF 2 (b__law_same (m__law_same n))
theorem d__law_same (T : Txt K mg) : ∀ n, DefS P w K mg base (1 + n) "_law_same" s__law_same ["got", "due"] (m__law_same n)
  | 0 => by
    obtain ⟨f, fd, hm, Fu⟩ := T.d__law_same
    exact ⟨f, fd, fn_bad (k := 0) Fu sc__law_same rfl, hm, Fu⟩
  | n + 1 => by
    have GS := d__law_same T n
    have GO := GS.ok (fun _ _ _ _ _ _ us hl => match us, hl with | [_, _], _ => rfl)
    obtain ⟨f, fd, hm, Fu⟩ := T.d__law_same
    refine ⟨f, fd, fn_ok (k := 1 + n) (m := 2) (body := b__law_same (m__law_same n)) Fu sc__law_same rfl rfl fun cdv A outer s H E hr => ?_, hm, Fu⟩
    exact es_cons (es_if (et_truth (ev_isG isLT_eq (ev_isis (ts := ["list", "tuple"]) (by rfl) T.b_isinstance (ev_var (pv 1)) (pa_cons (pty "list" (by rfl) T.b_list PyProof.Rows.boot_list) (pa_cons (pty "tuple" (by rfl) T.b_tuple PyProof.Rows.boot_tuple) (pa_nil))) (fun _ _ _ h => h) (by decide)))) (es_cons (es_if (PW.pt (ew_or (et_cmp (op_neDD (hu64 hr)) (by rfl) (ev_isO isLi_eq (ev_isi (t := "list") (by rfl) T.b_isinstance (ev_var (pv 0)) (pty "list" (by rfl) T.b_list PyProof.Rows.boot_list))) (ev_isO isLi_eq (ev_isi (t := "list") (by rfl) T.b_isinstance (ev_var (pv 1)) (pty "list" (by rfl) T.b_list PyProof.Rows.boot_list)))) (ew_or1 (et_cmp (op_neDD (hu64 hr)) (by rfl) (ev_isO isTu_eq (ev_isi (t := "tuple") (by rfl) T.b_isinstance (ev_var (pv 0)) (pty "tuple" (by rfl) T.b_tuple PyProof.Rows.boot_tuple))) (ev_isO isTu_eq (ev_isi (t := "tuple") (by rfl) T.b_isinstance (ev_var (pv 1)) (pty "tuple" (by rfl) T.b_tuple PyProof.Rows.boot_tuple))))))) (es_one (es_ret (ev_bl))) (es_nil)) (es_one (es_ret (ev_and (ev_cmp (op_eqDD (hu64 hr)) (by rfl) (ev_B cr_lenD (by rfl) T.b_len PySem.boot_len (ea_cons (ev_var (pv 0)) (ea_nil))) (ev_B cr_lenD (by rfl) T.b_len PySem.boot_len (ea_cons (ev_var (pv 1)) (ea_nil)))) (ev_one (ev_B (cr_allD rfl) (by rfl) T.b_all boot_all (ea_cons (ev_lc (own := [("mine", 2), ("own", 3)]) rfl sc__law_same.nd (js := [2, 3]) (blkOk_by (own := [("mine", 2), ("own", 3)]) (N := N__law_same) (sc := defScope s__law_same) (by decide +kernel)) (by decide) (ei_zip (by rfl) T.b_zip (ea_cons (ev_var (pv 0)) (ea_cons (ev_var (pv 1)) (ea_nil)))) (fun _ _ _ _ _ => tb_tp rfl (tbs_cons (tb_nm (pg_name (i := 2) sc__law_same.nd rfl (Or.inl rfl))) (tbs_cons (tb_nm (pg_name (i := 3) sc__law_same.nd rfl (Or.inl rfl))) (tbs_nil))) rfl) (fun _ _ _ _ _ => ets_nil) (fun _ _ _ _ _ => ev_call GO hr (Nat.le_refl _) (by rfl) takes0 (ea_cons (ev_var (pv 2)) (ea_cons (ev_var (pv 3)) (ea_nil))) (hn := al_cons (al_cons (al_nil))))) (ea_nil)))))))) (es_nil)) (es_cons (es_if (PW.pt (ew_or (et_cmp op_isD (by rfl) (ev_var (pv 1)) (ev_non)) (ew_or1 (et_truth (ev_isis (ts := ["bool", "str"]) (by rfl) T.b_isinstance (ev_var (pv 1)) (pa_cons (pty "bool" (by rfl) T.b_bool PyProof.Rows.boot_bool) (pa_cons (pty "str" (by rfl) T.b_str PyProof.Rows.boot_str) (pa_nil))) (fun _ _ _ h => h) (by decide)))))) (es_one (es_ret (ev_and (ev_cmp (op_eqDD (hu64 hr)) (by rfl) (ev_isO isSt_eq (ev_isi (t := "str") (by rfl) T.b_isinstance (ev_var (pv 0)) (pty "str" (by rfl) T.b_str PyProof.Rows.boot_str))) (ev_isO isSt_eq (ev_isi (t := "str") (by rfl) T.b_isinstance (ev_var (pv 1)) (pty "str" (by rfl) T.b_str PyProof.Rows.boot_str)))) (ev_and (ev_cmp (op_eqDD (hu64 hr)) (by rfl) (ev_isO isBo_eq (ev_isi (t := "bool") (by rfl) T.b_isinstance (ev_var (pv 0)) (pty "bool" (by rfl) T.b_bool PyProof.Rows.boot_bool))) (ev_isO isBo_eq (ev_isi (t := "bool") (by rfl) T.b_isinstance (ev_var (pv 1)) (pty "bool" (by rfl) T.b_bool PyProof.Rows.boot_bool)))) (ev_and (ev_cmp (op_eqDD (hu64 hr)) (by rfl) (ev_cmp op_isD (by rfl) (ev_var (pv 0)) (ev_non)) (ev_cmp op_isD (by rfl) (ev_var (pv 1)) (ev_non))) (ev_one (ev_cmp (op_eqDD (hu64 hr)) (by rfl) (ev_var (pv 0)) (ev_var (pv 1))))))))) (es_nil)) (es_one (es_ret (ev_and (ev_isO isIn_eq (ev_isi (t := "int") (by rfl) T.b_isinstance (ev_var (pv 0)) (pty "int" (by rfl) T.b_int PyProof.Rows.boot_int))) (ev_and (ev_not (ev_isO isBo_eq (ev_isi (t := "bool") (by rfl) T.b_isinstance (ev_var (pv 0)) (pty "bool" (by rfl) T.b_bool PyProof.Rows.boot_bool)))) (ev_one (ev_cmp (op_eqDD (hu64 hr)) (by rfl) (ev_var (pv 0)) (ev_var (pv 1)))))))))
theorem o__law_same (T : Txt K mg) (n : Nat) : DefOk P w K mg base (1 + n) "_law_same" ["got", "due"] (m__law_same n) := (d__law_same T n).ok (fun _ _ _ _ _ _ us hl => match us, hl with | [_, _], _ => rfl)
def b_tuple_of (rec : Fn) : S := sSeq (sIf (tTr (eIsG isLT (eVar 0))) (sRet (eB (on1 dTuple) (aCons (eLc [1] (iSeq (eVar 0)) (bNm 1) (Ev.ret true) (eCall rec (aCons (eVar 1) (aNil)))) (aNil)))) (sNx)) (sRet (eVar 0))
def m_tuple_of : Nat → Fn
  | 0 => fun _ => .bad
  | n + 1 => bodyF 1 (b_tuple_of (m_tuple_of n))
theorem d_tuple_of (T : Txt K mg) : ∀ n, DefS P w K mg base (1 + n) "tuple_of" s_tuple_of ["thing"] (m_tuple_of n)
  | 0 => by
    obtain ⟨f, fd, hm, Fu⟩ := T.d_tuple_of
    exact ⟨f, fd, fn_bad (k := 0) Fu sc_tuple_of rfl, hm, Fu⟩
  | n + 1 => by
    have GS := d_tuple_of T n
    have GO := GS.ok (fun _ _ _ _ _ _ us hl => match us, hl with | [_], _ => rfl)
    obtain ⟨f, fd, hm, Fu⟩ := T.d_tuple_of
    refine ⟨f, fd, fn_ok (k := 1 + n) (m := 1) (body := b_tuple_of (m_tuple_of n)) Fu sc_tuple_of rfl rfl fun cdv A outer s H E hr => ?_, hm, Fu⟩
    exact es_cons (es_if (et_truth (ev_isG isLT_eq (ev_isis (ts := ["list", "tuple"]) (by rfl) T.b_isinstance (ev_var (pv 0)) (pa_cons (pty "list" (by rfl) T.b_list PyProof.Rows.boot_list) (pa_cons (pty "tuple" (by rfl) T.b_tuple PyProof.Rows.boot_tuple) (pa_nil))) (fun _ _ _ h => h) (by decide)))) (es_one (es_ret (ev_Ty cr_tupleD (by rfl) T.b_tuple PyProof.Rows.boot_tuple (ea_cons (ev_lc (own := [("part", 1)]) rfl sc_tuple_of.nd (js := [1]) (blkOk_by (own := [("part", 1)]) (N := N_tuple_of) (sc := defScope s_tuple_of) (by decide +kernel)) (by decide) (ei_seq (ev_var (pv 0))) (fun _ _ _ _ _ => tb_nm (pg_name (i := 1) sc_tuple_of.nd rfl (Or.inl rfl))) (fun _ _ _ _ _ => ets_nil) (fun _ _ _ _ _ => ev_call GO hr (Nat.le_refl _) (by rfl) takes0 (ea_cons (ev_var (pv 1)) (ea_nil)) (hn := al_cons (al_nil)))) (ea_nil))))) (es_nil)) (es_one (es_ret (ev_var (pv 0))))
theorem o_tuple_of (T : Txt K mg) (n : Nat) : DefOk P w K mg base (1 + n) "tuple_of" ["thing"] (m_tuple_of n) := (d_tuple_of T n).ok (fun _ _ _ _ _ _ us hl => match us, hl with | [_], _ => rfl)
def b_less : S := sRet (eOp2 dLt (eOp2 dMul (eOp2 dIx (eVar 0) (eK (.int 0))) (eOp2 dIx (eVar 1) (eK (.int 1)))) (eOp2 dMul (eOp2 dIx (eVar 1) (eK (.int 0))) (eOp2 dIx (eVar 0) (eK (.int 1)))))
def m_less : Fn := bodyF 0 b_less
theorem d_less (T : Txt K mg) : DefS P w K mg base 1 "less" s_less ["x", "y"] m_less := by
  obtain ⟨f, fd, hm, Fu⟩ := T.d_less
  refine ⟨f, fd, fn_ok (k := 0) (m := 0) (body := b_less) Fu sc_less rfl rfl fun cdv A outer s H E hr => ?_, hm, Fu⟩
  exact es_one (es_ret (ev_cmp (op_ltD (hu64 hr)) (by rfl) (ev_op op_mulD (ev_ix (fun _ _ => rfl) (ev_var (pv 0)) (ev_int)) (ev_ix (fun _ _ => rfl) (ev_var (pv 1)) (ev_int))) (ev_op op_mulD (ev_ix (fun _ _ => rfl) (ev_var (pv 1)) (ev_int)) (ev_ix (fun _ _ => rfl) (ev_var (pv 0)) (ev_int)))))
theorem o_less (T : Txt K mg) : DefOk P w K mg base 1 "less" ["x", "y"] m_less := (d_less T).ok (fun _ _ _ _ _ _ us hl => match us, hl with | [_, _], _ => rfl)
def b_sure_stretch : S := sSeq (sPar 2 3 (eCall (m_tuple_of 8) (aCons (eVar 0) (aNil))) (eCall (m_tuple_of 8) (aCons (eVar 1) (aNil)))) (sSeq (sIf (tOrM (tTr (eCall m_less (aCons (eVar 2) (aCons (eK k_NOTHING) (aNil))))) (tOrM (tTr (eCall m_less (aCons (eVar 3) (aCons (eVar 2) (aNil))))) (tTr (eCall m_less (aCons (eK k_WHOLE) (aCons (eVar 3) (aNil))))))) (sRaise "Unfit") (sNx)) (sRet (eTup (aCons (eVar 2) (aCons (eVar 3) (aNil))))))
def m_sure_stretch : Fn := bodyF 2 b_sure_stretch
theorem d_sure_stretch (T : Txt K mg) : DefS P w K mg base 10 "sure_stretch" s_sure_stretch ["low", "high"] m_sure_stretch := by
  obtain ⟨f, fd, hm, Fu⟩ := T.d_sure_stretch
  refine ⟨f, fd, fn_ok (k := 9) (m := 2) (body := b_sure_stretch) Fu sc_sure_stretch rfl rfl fun cdv A outer s H E hr => ?_, hm, Fu⟩
  exact es_cons (es_par (i := 2) (j := 3) rfl sc_sure_stretch.nd rfl rfl (by decide) rfl rfl (ev_call (o_tuple_of T 8) hr (by decide) (by rfl) (takes_of rfl rfl rfl rfl) (ea_cons (ev_var (pv 0)) (ea_nil)) (hn := al_cons (al_nil))) (ev_call (o_tuple_of T 8) hr (by decide) (by rfl) (takes_of rfl rfl rfl rfl) (ea_cons (ev_var (pv 1)) (ea_nil)) (hn := al_cons (al_nil))) (by rfl)) (es_cons (es_if (PW.pt (ew_or (et_truth (ev_call (o_less T) hr (by decide) (by rfl) (takes_of rfl rfl rfl rfl) (ea_cons (ev_var (pv 2)) (ea_cons (ev_const (by rfl) T.k_NOTHING) (ea_nil))) (hn := al_cons (al_cons (al_nil))))) (ew_or (et_truth (ev_call (o_less T) hr (by decide) (by rfl) (takes_of rfl rfl rfl rfl) (ea_cons (ev_var (pv 3)) (ea_cons (ev_var (pv 2)) (ea_nil))) (hn := al_cons (al_cons (al_nil))))) (ew_or1 (et_truth (ev_call (o_less T) hr (by decide) (by rfl) (takes_of rfl rfl rfl rfl) (ea_cons (ev_const (by rfl) T.k_WHOLE) (ea_cons (ev_var (pv 3)) (ea_nil))) (hn := al_cons (al_cons (al_nil))))))))) (es_one (es_raise T.e_Unfit.choose_spec rfl (takes_of rfl rfl rfl rfl) (by rfl))) (es_nil)) (es_one (es_ret (ev_tup (ea_cons (ev_var (pv 2)) (ea_cons (ev_var (pv 3)) (ea_nil)))))))
theorem o_sure_stretch (T : Txt K mg) : DefOk P w K mg base 10 "sure_stretch" ["low", "high"] m_sure_stretch := (d_sure_stretch T).ok (fun _ _ _ _ _ _ us hl => match us, hl with | [_, _], _ => rfl)
def b_lowest : S := sSeq (sSet 2 (eB (on2 dGcd) (aCons (eVar 0) (aCons (eVar 1) (aNil))))) (sSeq (sIf (tBool (eOp2 dLt (eVar 1) (eK (.int 0)))) (sSet 2 (eOp1 dNeg (eVar 2))) (sNx)) (sRet (eTup (aCons (eOp2 dDiv (eVar 0) (eVar 2)) (aCons (eOp2 dDiv (eVar 1) (eVar 2)) (aNil))))))
def m_lowest : Fn := bodyF 1 b_lowest
theorem d_lowest (T : Txt K mg) : DefS P w K mg base 1 "lowest" s_lowest ["top", "below"] m_lowest := by
  obtain ⟨f, fd, hm, Fu⟩ := T.d_lowest
  refine ⟨f, fd, fn_ok (k := 0) (m := 1) (body := b_lowest) Fu sc_lowest rfl rfl fun cdv A outer s H E hr => ?_, hm, Fu⟩
  exact es_cons (es_set (i := 2) sc_lowest.nd rfl (Or.inl rfl) (ev_gcd (by rfl) T.g_gcd (ea_cons (ev_var (pv 0)) (ea_cons (ev_var (pv 1)) (ea_nil))))) (es_cons (es_if (et_cmp (op_ltD (hu64 hr)) (by rfl) (ev_var (pv 1)) (ev_int)) (es_one (es_set (i := 2) sc_lowest.nd rfl (Or.inl rfl) (ev_un un_negD (ev_var (pv 2))))) (es_nil)) (es_one (es_ret (ev_tup (ea_cons (ev_op op_divD (ev_var (pv 0)) (ev_var (pv 2))) (ea_cons (ev_op op_divD (ev_var (pv 1)) (ev_var (pv 2))) (ea_nil)))))))
theorem o_lowest (T : Txt K mg) : DefOk P w K mg base 1 "lowest" ["top", "below"] m_lowest := (d_lowest T).ok (fun _ _ _ _ _ _ us hl => match us, hl with | [_, _], _ => rfl)
def b_plus : S := sRet (eCall m_lowest (aCons (eOp2 dAdd (eOp2 dMul (eOp2 dIx (eVar 0) (eK (.int 0))) (eOp2 dIx (eVar 1) (eK (.int 1)))) (eOp2 dMul (eOp2 dIx (eVar 1) (eK (.int 0))) (eOp2 dIx (eVar 0) (eK (.int 1))))) (aCons (eOp2 dMul (eOp2 dIx (eVar 0) (eK (.int 1))) (eOp2 dIx (eVar 1) (eK (.int 1)))) (aNil))))
def m_plus : Fn := bodyF 0 b_plus
theorem d_plus (T : Txt K mg) : DefS P w K mg base 2 "plus" s_plus ["x", "y"] m_plus := by
  obtain ⟨f, fd, hm, Fu⟩ := T.d_plus
  refine ⟨f, fd, fn_ok (k := 1) (m := 0) (body := b_plus) Fu sc_plus rfl rfl fun cdv A outer s H E hr => ?_, hm, Fu⟩
  exact es_one (es_ret (ev_call (o_lowest T) hr (by decide) (by rfl) (takes_of rfl rfl rfl rfl) (ea_cons (ev_op op_addD (ev_op op_mulD (ev_ix (fun _ _ => rfl) (ev_var (pv 0)) (ev_int)) (ev_ix (fun _ _ => rfl) (ev_var (pv 1)) (ev_int))) (ev_op op_mulD (ev_ix (fun _ _ => rfl) (ev_var (pv 1)) (ev_int)) (ev_ix (fun _ _ => rfl) (ev_var (pv 0)) (ev_int)))) (ea_cons (ev_op op_mulD (ev_ix (fun _ _ => rfl) (ev_var (pv 0)) (ev_int)) (ev_ix (fun _ _ => rfl) (ev_var (pv 1)) (ev_int))) (ea_nil))) (hn := al_cons (al_cons (al_nil)))))
theorem o_plus (T : Txt K mg) : DefOk P w K mg base 2 "plus" ["x", "y"] m_plus := (d_plus T).ok (fun _ _ _ _ _ _ us hl => match us, hl with | [_, _], _ => rfl)
def b_times : S := sRet (eCall m_lowest (aCons (eOp2 dMul (eOp2 dIx (eVar 0) (eK (.int 0))) (eOp2 dIx (eVar 1) (eK (.int 0)))) (aCons (eOp2 dMul (eOp2 dIx (eVar 0) (eK (.int 1))) (eOp2 dIx (eVar 1) (eK (.int 1)))) (aNil))))
def m_times : Fn := bodyF 0 b_times
theorem d_times (T : Txt K mg) : DefS P w K mg base 2 "times" s_times ["x", "y"] m_times := by
  obtain ⟨f, fd, hm, Fu⟩ := T.d_times
  refine ⟨f, fd, fn_ok (k := 1) (m := 0) (body := b_times) Fu sc_times rfl rfl fun cdv A outer s H E hr => ?_, hm, Fu⟩
  exact es_one (es_ret (ev_call (o_lowest T) hr (by decide) (by rfl) (takes_of rfl rfl rfl rfl) (ea_cons (ev_op op_mulD (ev_ix (fun _ _ => rfl) (ev_var (pv 0)) (ev_int)) (ev_ix (fun _ _ => rfl) (ev_var (pv 1)) (ev_int))) (ea_cons (ev_op op_mulD (ev_ix (fun _ _ => rfl) (ev_var (pv 0)) (ev_int)) (ev_ix (fun _ _ => rfl) (ev_var (pv 1)) (ev_int))) (ea_nil))) (hn := al_cons (al_cons (al_nil)))))
theorem o_times (T : Txt K mg) : DefOk P w K mg base 2 "times" ["x", "y"] m_times := (d_times T).ok (fun _ _ _ _ _ _ us hl => match us, hl with | [_, _], _ => rfl)
def b_curve_in : S := sSeq (sSet 2 (eK k_NOTHING)) (sSeq (sFor (iRev (eVar 0)) (bNm 3) (sSet 2 (eCall m_plus (aCons (eCall m_times (aCons (eVar 2) (aCons (eVar 1) (aNil)))) (aCons (eVar 3) (aNil)))))) (sRet (eVar 2)))
def m_curve_in : Fn := bodyF 2 b_curve_in
theorem d_curve_in (T : Txt K mg) : DefS P w K mg base 3 "curve_in" s_curve_in ["curve", "x"] m_curve_in := by
  obtain ⟨f, fd, hm, Fu⟩ := T.d_curve_in
  refine ⟨f, fd, fn_ok (k := 2) (m := 2) (body := b_curve_in) Fu sc_curve_in rfl rfl fun cdv A outer s H E hr => ?_, hm, Fu⟩
  exact es_cons (es_set (i := 2) sc_curve_in.nd rfl (Or.inl rfl) (ev_const (by rfl) T.k_NOTHING)) (es_cons (es_for (js := [3]) (passes_of rfl) rfl (ei_rev (by rfl) T.b_reversed (ev_var (pv 0))) (tb_nm (pg_name (i := 3) sc_curve_in.nd rfl (Or.inl rfl))) (es_one (es_set (i := 2) sc_curve_in.nd rfl (Or.inl rfl) (ev_call (o_plus T) hr (by decide) (by rfl) (takes_of rfl rfl rfl rfl) (ea_cons (ev_call (o_times T) hr (by decide) (by rfl) (takes_of rfl rfl rfl rfl) (ea_cons (ev_var (pv 2)) (ea_cons (ev_var (pv 1)) (ea_nil))) (hn := al_cons (al_cons (al_nil)))) (ea_cons (ev_var (pv 3)) (ea_nil))) (hn := al_cons (al_cons (al_nil))))))) (es_one (es_ret (ev_var (pv 2)))))
theorem o_curve_in (T : Txt K mg) : DefOk P w K mg base 3 "curve_in" ["curve", "x"] m_curve_in := (d_curve_in T).ok (fun _ _ _ _ _ _ us hl => match us, hl with | [_, _], _ => rfl)
def b_curve_of : S := sSeq (sSet 1 (eB (on1 dList) (aCons (eVar 0) (aNil)))) (sSeq ((fun ρ => whL (tAndM (tBool (eOp2 dNe (eVar 1) (eLst (aNil)))) (tBool (eOp2 dEq (eOp2 dIx (eVar 1) (eOp1 dNeg (eK (.int 1)))) (eK k_NOTHING)))) (sExpr (eMt mPop0 1 aNil)) ((fun _ => 1000000) ρ) ρ)) (sRet (eB (on1 dTuple) (aCons (eVar 1) (aNil)))))
def m_curve_of : Fn := bodyF 1 b_curve_of
theorem d_curve_of (T : Txt K mg) : DefS P w K mg base 1 "curve_of" s_curve_of ["row"] m_curve_of := by
  obtain ⟨f, fd, hm, Fu⟩ := T.d_curve_of
  refine ⟨f, fd, fn_ok (k := 0) (m := 1) (body := b_curve_of) Fu sc_curve_of rfl rfl fun cdv A outer s H E hr => ?_, hm, Fu⟩
  exact es_cons (es_set (i := 1) sc_curve_of.nd rfl (Or.inl rfl) (ev_Ty cr_listD (by rfl) T.b_list PyProof.Rows.boot_list (ea_cons (ev_var (pv 0)) (ea_nil)))) (es_cons (es_while (fun _ => 1000000) (passes_of rfl) (PW.pt (ew_and (et_cmp (op_neDD (hu64 hr)) (by rfl) (ev_var (pv 1)) (ev_lst (ea_nil))) (ew_and1 (et_cmp (op_eqDD (hu64 hr)) (by rfl) (ev_ix (fun _ _ => rfl) (ev_var (pv 1)) (ev_un un_negD (ev_int))) (ev_const (by rfl) T.k_NOTHING))))) (es_one (es_expr (ev_pop0 (pv 1))))) (es_one (es_ret (ev_Ty cr_tupleD (by rfl) T.b_tuple PyProof.Rows.boot_tuple (ea_cons (ev_var (pv 1)) (ea_nil))))))
theorem o_curve_of (T : Txt K mg) : DefOk P w K mg base 1 "curve_of" ["row"] m_curve_of := (d_curve_of T).ok (fun _ _ _ _ _ _ us hl => match us, hl with | [_], _ => rfl)
def b_curve_product : S := sSeq (sPar 2 3 (eCall (m_tuple_of 8) (aCons (eVar 0) (aNil))) (eCall (m_tuple_of 8) (aCons (eVar 1) (aNil)))) (sSeq (sSet 4 (eRepL (eLst (aCons (eK k_NOTHING) (aNil))) (eB (on2 dMax2) (aCons (eK (.int 0)) (aCons (eOp2 dSub (eOp2 dAdd (eB (on1 dLen) (aCons (eVar 2) (aNil))) (eB (on1 dLen) (aCons (eVar 3) (aNil)))) (eK (.int 1))) (aNil)))))) (sSeq (sFor (iEnm (aCons (eVar 2) (aNil))) (bTp [bNm 5, bNm 6]) (sFor (iEnm (aCons (eVar 3) (aNil))) (bTp [bNm 7, bNm 8]) (sSub 4 (eOp2 dAdd (eVar 5) (eVar 7)) (eCall m_plus (aCons (eOp2 dIx (eVar 4) (eOp2 dAdd (eVar 5) (eVar 7))) (aCons (eCall m_times (aCons (eVar 6) (aCons (eVar 8) (aNil)))) (aNil))))))) (sRet (eCall m_curve_of (aCons (eVar 4) (aNil))))))
def m_curve_product : Fn := bodyF 7 b_curve_product
theorem d_curve_product (T : Txt K mg) : DefS P w K mg base 10 "curve_product" s_curve_product ["curve", "other"] m_curve_product := by
  obtain ⟨f, fd, hm, Fu⟩ := T.d_curve_product
  refine ⟨f, fd, fn_ok (k := 9) (m := 7) (body := b_curve_product) Fu sc_curve_product rfl rfl fun cdv A outer s H E hr => ?_, hm, Fu⟩
  exact es_cons (es_par (i := 2) (j := 3) rfl sc_curve_product.nd rfl rfl (by decide) rfl rfl (ev_call (o_tuple_of T 8) hr (by decide) (by rfl) (takes_of rfl rfl rfl rfl) (ea_cons (ev_var (pv 0)) (ea_nil)) (hn := al_cons (al_nil))) (ev_call (o_tuple_of T 8) hr (by decide) (by rfl) (takes_of rfl rfl rfl rfl) (ea_cons (ev_var (pv 1)) (ea_nil)) (hn := al_cons (al_nil))) (by rfl)) (es_cons (es_set (i := 4) sc_curve_product.nd rfl (Or.inl rfl) (ev_repL (ev_lst (ea_cons (ev_const (by rfl) T.k_NOTHING) (ea_nil))) (ev_B (cr_max2D rfl) (by rfl) T.b_max boot_max (ea_cons (ev_int) (ea_cons (ev_op op_subD (ev_op op_addD (ev_B cr_lenD (by rfl) T.b_len PySem.boot_len (ea_cons (ev_var (pv 2)) (ea_nil))) (ev_B cr_lenD (by rfl) T.b_len PySem.boot_len (ea_cons (ev_var (pv 3)) (ea_nil)))) (ev_int)) (ea_nil)))))) (es_cons (es_for (js := [5, 6]) (passes_of rfl) rfl (ei_enum (by rfl) T.b_enumerate (ea_cons (ev_var (pv 2)) (ea_nil))) (tb_tp rfl (tbs_cons (tb_nm (pg_name (i := 5) sc_curve_product.nd rfl (Or.inl rfl))) (tbs_cons (tb_nm (pg_name (i := 6) sc_curve_product.nd rfl (Or.inl rfl))) (tbs_nil))) rfl) (es_one (es_for (js := [7, 8]) (passes_of rfl) rfl (ei_enum (by rfl) T.b_enumerate (ea_cons (ev_var (pv 3)) (ea_nil))) (tb_tp rfl (tbs_cons (tb_nm (pg_name (i := 7) sc_curve_product.nd rfl (Or.inl rfl))) (tbs_cons (tb_nm (pg_name (i := 8) sc_curve_product.nd rfl (Or.inl rfl))) (tbs_nil))) rfl) (es_one (es_sub (i := 4) (pv 4) (ev_op op_addD (ev_var (pv 5)) (ev_var (pv 7))) (ev_call (o_plus T) hr (by decide) (by rfl) (takes_of rfl rfl rfl rfl) (ea_cons (ev_ix (fun _ _ => rfl) (ev_var (pv 4)) (ev_op op_addD (ev_var (pv 5)) (ev_var (pv 7)))) (ea_cons (ev_call (o_times T) hr (by decide) (by rfl) (takes_of rfl rfl rfl rfl) (ea_cons (ev_var (pv 6)) (ea_cons (ev_var (pv 8)) (ea_nil))) (hn := al_cons (al_cons (al_nil)))) (ea_nil))) (hn := al_cons (al_cons (al_nil))))))))) (es_one (es_ret (ev_call (o_curve_of T) hr (by decide) (by rfl) (takes_of rfl rfl rfl rfl) (ea_cons (ev_var (pv 4)) (ea_nil)) (hn := al_cons (al_nil)))))))
theorem o_curve_product (T : Txt K mg) : DefOk P w K mg base 10 "curve_product" ["curve", "other"] m_curve_product := (d_curve_product T).ok (fun _ _ _ _ _ _ us hl => match us, hl with | [_, _], _ => rfl)
def b_curve_slope : S := sRet (eCall m_curve_of (aCons (eLc [1, 2] (iEnm (aCons (eCut (eCall (m_tuple_of 8) (aCons (eVar 0) (aNil))) (bSome (eK (.int 1))) (Ev.ret none)) (aNil))) (bTp [bNm 1, bNm 2]) (Ev.ret true) (eCall m_times (aCons (eVar 2) (aCons (eTup (aCons (eOp2 dAdd (eVar 1) (eK (.int 1))) (aCons (eK (.int 1)) (aNil)))) (aNil))))) (aNil)))
def m_curve_slope : Fn := bodyF 2 b_curve_slope
theorem d_curve_slope (T : Txt K mg) : DefS P w K mg base 10 "curve_slope" s_curve_slope ["curve"] m_curve_slope := by
  obtain ⟨f, fd, hm, Fu⟩ := T.d_curve_slope
  refine ⟨f, fd, fn_ok (k := 9) (m := 2) (body := b_curve_slope) Fu sc_curve_slope rfl rfl fun cdv A outer s H E hr => ?_, hm, Fu⟩
  exact es_one (es_ret (ev_call (o_curve_of T) hr (by decide) (by rfl) (takes_of rfl rfl rfl rfl) (ea_cons (ev_lc (own := [("k", 1), ("own", 2)]) rfl sc_curve_slope.nd (js := [1, 2]) (blkOk_by (own := [("k", 1), ("own", 2)]) (N := N_curve_slope) (sc := defScope s_curve_slope) (by decide +kernel)) (by decide) (ei_enum (by rfl) T.b_enumerate (ea_cons (ev_cut (ev_call (o_tuple_of T 8) hr (by decide) (by rfl) (takes_of rfl rfl rfl rfl) (ea_cons (ev_var (pv 0)) (ea_nil)) (hn := al_cons (al_nil))) (eb_some (ev_int)) (eb_none)) (ea_nil))) (fun _ _ _ _ _ => tb_tp rfl (tbs_cons (tb_nm (pg_name (i := 1) sc_curve_slope.nd rfl (Or.inl rfl))) (tbs_cons (tb_nm (pg_name (i := 2) sc_curve_slope.nd rfl (Or.inl rfl))) (tbs_nil))) rfl) (fun _ _ _ _ _ => ets_nil) (fun _ _ _ _ _ => ev_call (o_times T) hr (by decide) (by rfl) takes0 (ea_cons (ev_var (pv 2)) (ea_cons (ev_tup (ea_cons (ev_op op_addD (ev_var (pv 1)) (ev_int)) (ea_cons (ev_int) (ea_nil)))) (ea_nil))) (hn := al_cons (al_cons (al_nil))))) (ea_nil)) (hn := al_cons (al_nil))))
theorem o_curve_slope (T : Txt K mg) : DefOk P w K mg base 10 "curve_slope" ["curve"] m_curve_slope := (d_curve_slope T).ok (fun _ _ _ _ _ _ us hl => match us, hl with | [_], _ => rfl)
def b_minus : S := sRet (eCall m_lowest (aCons (eOp2 dSub (eOp2 dMul (eOp2 dIx (eVar 0) (eK (.int 0))) (eOp2 dIx (eVar 1) (eK (.int 1)))) (eOp2 dMul (eOp2 dIx (eVar 1) (eK (.int 0))) (eOp2 dIx (eVar 0) (eK (.int 1))))) (aCons (eOp2 dMul (eOp2 dIx (eVar 0) (eK (.int 1))) (eOp2 dIx (eVar 1) (eK (.int 1)))) (aNil))))
def m_minus : Fn := bodyF 0 b_minus
theorem d_minus (T : Txt K mg) : DefS P w K mg base 2 "minus" s_minus ["x", "y"] m_minus := by
  obtain ⟨f, fd, hm, Fu⟩ := T.d_minus
  refine ⟨f, fd, fn_ok (k := 1) (m := 0) (body := b_minus) Fu sc_minus rfl rfl fun cdv A outer s H E hr => ?_, hm, Fu⟩
  exact es_one (es_ret (ev_call (o_lowest T) hr (by decide) (by rfl) (takes_of rfl rfl rfl rfl) (ea_cons (ev_op op_subD (ev_op op_mulD (ev_ix (fun _ _ => rfl) (ev_var (pv 0)) (ev_int)) (ev_ix (fun _ _ => rfl) (ev_var (pv 1)) (ev_int))) (ev_op op_mulD (ev_ix (fun _ _ => rfl) (ev_var (pv 1)) (ev_int)) (ev_ix (fun _ _ => rfl) (ev_var (pv 0)) (ev_int)))) (ea_cons (ev_op op_mulD (ev_ix (fun _ _ => rfl) (ev_var (pv 0)) (ev_int)) (ev_ix (fun _ _ => rfl) (ev_var (pv 1)) (ev_int))) (ea_nil))) (hn := al_cons (al_cons (al_nil)))))
theorem o_minus (T : Txt K mg) : DefOk P w K mg base 2 "minus" ["x", "y"] m_minus := (d_minus T).ok (fun _ _ _ _ _ _ us hl => match us, hl with | [_, _], _ => rfl)
def b_over : S := sSeq (sIf (tBool (eOp2 dEq (eOp2 dIx (eVar 1) (eK (.int 0))) (eK (.int 0)))) (sRaise "CanNot") (sNx)) (sRet (eCall m_lowest (aCons (eOp2 dMul (eOp2 dIx (eVar 0) (eK (.int 0))) (eOp2 dIx (eVar 1) (eK (.int 1)))) (aCons (eOp2 dMul (eOp2 dIx (eVar 0) (eK (.int 1))) (eOp2 dIx (eVar 1) (eK (.int 0)))) (aNil)))))
def m_over : Fn := bodyF 0 b_over
theorem d_over (T : Txt K mg) : DefS P w K mg base 2 "over" s_over ["x", "y"] m_over := by
  obtain ⟨f, fd, hm, Fu⟩ := T.d_over
  refine ⟨f, fd, fn_ok (k := 1) (m := 0) (body := b_over) Fu sc_over rfl rfl fun cdv A outer s H E hr => ?_, hm, Fu⟩
  exact es_cons (es_if (et_cmp (op_eqDD (hu64 hr)) (by rfl) (ev_ix (fun _ _ => rfl) (ev_var (pv 1)) (ev_int)) (ev_int)) (es_one (es_raise T.e_CanNot.choose_spec rfl (takes_of rfl rfl rfl rfl) (by rfl))) (es_nil)) (es_one (es_ret (ev_call (o_lowest T) hr (by decide) (by rfl) (takes_of rfl rfl rfl rfl) (ea_cons (ev_op op_mulD (ev_ix (fun _ _ => rfl) (ev_var (pv 0)) (ev_int)) (ev_ix (fun _ _ => rfl) (ev_var (pv 1)) (ev_int))) (ea_cons (ev_op op_mulD (ev_ix (fun _ _ => rfl) (ev_var (pv 0)) (ev_int)) (ev_ix (fun _ _ => rfl) (ev_var (pv 1)) (ev_int))) (ea_nil))) (hn := al_cons (al_cons (al_nil))))))
theorem o_over (T : Txt K mg) : DefOk P w K mg base 2 "over" ["x", "y"] m_over := (d_over T).ok (fun _ _ _ _ _ _ us hl => match us, hl with | [_, _], _ => rfl)
def b_curve_parted : S := sSeq (sPar 2 3 (eB (on1 dList) (aCons (eVar 0) (aNil))) (eRepL (eLst (aCons (eK k_NOTHING) (aNil))) (eB (on2 dMax2) (aCons (eK (.int 0)) (aCons (eOp2 dAdd (eOp2 dSub (eB (on1 dLen) (aCons (eVar 0) (aNil))) (eB (on1 dLen) (aCons (eVar 1) (aNil)))) (eK (.int 1))) (aNil)))))) (sSeq (sFor (iRg gR3 (aCons (eOp2 dSub (eB (on1 dLen) (aCons (eVar 0) (aNil))) (eB (on1 dLen) (aCons (eVar 1) (aNil)))) (aCons (eOp1 dNeg (eK (.int 1))) (aCons (eOp1 dNeg (eK (.int 1))) (aNil))))) (bNm 4) (sSeq (sSub 3 (eVar 4) (eCall m_over (aCons (eOp2 dIx (eVar 2) (eOp2 dSub (eOp2 dAdd (eVar 4) (eB (on1 dLen) (aCons (eVar 1) (aNil)))) (eK (.int 1)))) (aCons (eOp2 dIx (eVar 1) (eOp1 dNeg (eK (.int 1)))) (aNil))))) (sFor (iEnm (aCons (eVar 1) (aNil))) (bTp [bNm 5, bNm 6]) (sSub 2 (eOp2 dAdd (eVar 4) (eVar 5)) (eCall m_minus (aCons (eOp2 dIx (eVar 2) (eOp2 dAdd (eVar 4) (eVar 5))) (aCons (eCall m_times (aCons (eOp2 dIx (eVar 3) (eVar 4)) (aCons (eVar 6) (aNil)))) (aNil)))))))) (sRet (eTup (aCons (eCall m_curve_of (aCons (eVar 3) (aNil))) (aCons (eCall m_curve_of (aCons (eVar 2) (aNil))) (aNil))))))
def m_curve_parted : Fn := bodyF 5 b_curve_parted
theorem d_curve_parted (T : Txt K mg) : DefS P w K mg base 3 "curve_parted" s_curve_parted ["curve", "other"] m_curve_parted := by
  obtain ⟨f, fd, hm, Fu⟩ := T.d_curve_parted
  refine ⟨f, fd, fn_ok (k := 2) (m := 5) (body := b_curve_parted) Fu sc_curve_parted rfl rfl fun cdv A outer s H E hr => ?_, hm, Fu⟩
  exact es_cons (es_par (i := 2) (j := 3) rfl sc_curve_parted.nd rfl rfl (by decide) rfl rfl (ev_Ty cr_listD (by rfl) T.b_list PyProof.Rows.boot_list (ea_cons (ev_var (pv 0)) (ea_nil))) (ev_repL (ev_lst (ea_cons (ev_const (by rfl) T.k_NOTHING) (ea_nil))) (ev_B (cr_max2D rfl) (by rfl) T.b_max boot_max (ea_cons (ev_int) (ea_cons (ev_op op_addD (ev_op op_subD (ev_B cr_lenD (by rfl) T.b_len PySem.boot_len (ea_cons (ev_var (pv 0)) (ea_nil))) (ev_B cr_lenD (by rfl) T.b_len PySem.boot_len (ea_cons (ev_var (pv 1)) (ea_nil)))) (ev_int)) (ea_nil))))) (by rfl)) (es_cons (es_for (js := [4]) (passes_of rfl) rfl (ei_rng3 (by rfl) T.b_range (ea_cons (ev_op op_subD (ev_B cr_lenD (by rfl) T.b_len PySem.boot_len (ea_cons (ev_var (pv 0)) (ea_nil))) (ev_B cr_lenD (by rfl) T.b_len PySem.boot_len (ea_cons (ev_var (pv 1)) (ea_nil)))) (ea_cons (ev_un un_negD (ev_int)) (ea_cons (ev_un un_negD (ev_int)) (ea_nil))))) (tb_nm (pg_name (i := 4) sc_curve_parted.nd rfl (Or.inl rfl))) (es_cons (es_sub (i := 3) (pv 3) (ev_var (pv 4)) (ev_call (o_over T) hr (by decide) (by rfl) (takes_of rfl rfl rfl rfl) (ea_cons (ev_ix (fun _ _ => rfl) (ev_var (pv 2)) (ev_op op_subD (ev_op op_addD (ev_var (pv 4)) (ev_B cr_lenD (by rfl) T.b_len PySem.boot_len (ea_cons (ev_var (pv 1)) (ea_nil)))) (ev_int))) (ea_cons (ev_ix (fun _ _ => rfl) (ev_var (pv 1)) (ev_un un_negD (ev_int))) (ea_nil))) (hn := al_cons (al_cons (al_nil))))) (es_one (es_for (js := [5, 6]) (passes_of rfl) rfl (ei_enum (by rfl) T.b_enumerate (ea_cons (ev_var (pv 1)) (ea_nil))) (tb_tp rfl (tbs_cons (tb_nm (pg_name (i := 5) sc_curve_parted.nd rfl (Or.inl rfl))) (tbs_cons (tb_nm (pg_name (i := 6) sc_curve_parted.nd rfl (Or.inl rfl))) (tbs_nil))) rfl) (es_one (es_sub (i := 2) (pv 2) (ev_op op_addD (ev_var (pv 4)) (ev_var (pv 5))) (ev_call (o_minus T) hr (by decide) (by rfl) (takes_of rfl rfl rfl rfl) (ea_cons (ev_ix (fun _ _ => rfl) (ev_var (pv 2)) (ev_op op_addD (ev_var (pv 4)) (ev_var (pv 5)))) (ea_cons (ev_call (o_times T) hr (by decide) (by rfl) (takes_of rfl rfl rfl rfl) (ea_cons (ev_ix (fun _ _ => rfl) (ev_var (pv 3)) (ev_var (pv 4))) (ea_cons (ev_var (pv 6)) (ea_nil))) (hn := al_cons (al_cons (al_nil)))) (ea_nil))) (hn := al_cons (al_cons (al_nil)))))))))) (es_one (es_ret (ev_tup (ea_cons (ev_call (o_curve_of T) hr (by decide) (by rfl) (takes_of rfl rfl rfl rfl) (ea_cons (ev_var (pv 3)) (ea_nil)) (hn := al_cons (al_nil))) (ea_cons (ev_call (o_curve_of T) hr (by decide) (by rfl) (takes_of rfl rfl rfl rfl) (ea_cons (ev_var (pv 2)) (ea_nil)) (hn := al_cons (al_nil))) (ea_nil)))))))
theorem o_curve_parted (T : Txt K mg) : DefOk P w K mg base 3 "curve_parted" ["curve", "other"] m_curve_parted := (d_curve_parted T).ok (fun _ _ _ _ _ _ us hl => match us, hl with | [_, _], _ => rfl)
def b_curve_times : S := sRet (eCall m_curve_product (aCons (eVar 0) (aCons (eCall m_curve_of (aCons (eLst (aCons (eVar 1) (aNil))) (aNil))) (aNil))))
def m_curve_times : Fn := bodyF 0 b_curve_times
theorem d_curve_times (T : Txt K mg) : DefS P w K mg base 11 "curve_times" s_curve_times ["curve", "x"] m_curve_times := by
  obtain ⟨f, fd, hm, Fu⟩ := T.d_curve_times
  refine ⟨f, fd, fn_ok (k := 10) (m := 0) (body := b_curve_times) Fu sc_curve_times rfl rfl fun cdv A outer s H E hr => ?_, hm, Fu⟩
  exact es_one (es_ret (ev_call (o_curve_product T) hr (by decide) (by rfl) (takes_of rfl rfl rfl rfl) (ea_cons (ev_var (pv 0)) (ea_cons (ev_call (o_curve_of T) hr (by decide) (by rfl) (takes_of rfl rfl rfl rfl) (ea_cons (ev_lst (ea_cons (ev_var (pv 1)) (ea_nil))) (ea_nil)) (hn := al_cons (al_nil))) (ea_nil))) (hn := al_cons (al_cons (al_nil)))))
theorem o_curve_times (T : Txt K mg) : DefOk P w K mg base 11 "curve_times" ["curve", "x"] m_curve_times := (d_curve_times T).ok (fun _ _ _ _ _ _ us hl => match us, hl with | [_, _], _ => rfl)
def b_curve_headed : S := sRet (eCall m_curve_times (aCons (eVar 0) (aCons (eCall m_over (aCons (eK k_WHOLE) (aCons (eOp2 dIx (eVar 0) (eOp1 dNeg (eK (.int 1)))) (aNil)))) (aNil))))
def m_curve_headed : Fn := bodyF 0 b_curve_headed
theorem d_curve_headed (T : Txt K mg) : DefS P w K mg base 12 "curve_headed" s_curve_headed ["curve"] m_curve_headed := by
  obtain ⟨f, fd, hm, Fu⟩ := T.d_curve_headed
  refine ⟨f, fd, fn_ok (k := 11) (m := 0) (body := b_curve_headed) Fu sc_curve_headed rfl rfl fun cdv A outer s H E hr => ?_, hm, Fu⟩
  exact es_one (es_ret (ev_call (o_curve_times T) hr (by decide) (by rfl) (takes_of rfl rfl rfl rfl) (ea_cons (ev_var (pv 0)) (ea_cons (ev_call (o_over T) hr (by decide) (by rfl) (takes_of rfl rfl rfl rfl) (ea_cons (ev_const (by rfl) T.k_WHOLE) (ea_cons (ev_ix (fun _ _ => rfl) (ev_var (pv 0)) (ev_un un_negD (ev_int))) (ea_nil))) (hn := al_cons (al_cons (al_nil)))) (ea_nil))) (hn := al_cons (al_cons (al_nil)))))
theorem o_curve_headed (T : Txt K mg) : DefOk P w K mg base 12 "curve_headed" ["curve"] m_curve_headed := (d_curve_headed T).ok (fun _ _ _ _ _ _ us hl => match us, hl with | [_], _ => rfl)
def b_curve_common : S := sSeq (sPar 2 3 (eCall m_curve_headed (aCons (eVar 0) (aNil))) (eVar 1)) (sSeq ((fun ρ => whL (tBool (eOp2 dNe (eVar 3) (eTup (aNil)))) (sSeq (sSet 3 (eCall m_curve_headed (aCons (eVar 3) (aNil)))) (sPar 2 3 (eVar 3) (eOp2 dIx (eCall m_curve_parted (aCons (eVar 2) (aCons (eVar 3) (aNil)))) (eK (.int 1))))) ((fun _ => 1000000) ρ) ρ)) (sRet (eVar 2)))
def m_curve_common : Fn := bodyF 2 b_curve_common
theorem d_curve_common (T : Txt K mg) : DefS P w K mg base 13 "curve_common" s_curve_common ["curve", "other"] m_curve_common := by
  obtain ⟨f, fd, hm, Fu⟩ := T.d_curve_common
  refine ⟨f, fd, fn_ok (k := 12) (m := 2) (body := b_curve_common) Fu sc_curve_common rfl rfl fun cdv A outer s H E hr => ?_, hm, Fu⟩
  exact es_cons (es_par (i := 2) (j := 3) rfl sc_curve_common.nd rfl rfl (by decide) rfl rfl (ev_call (o_curve_headed T) hr (by decide) (by rfl) (takes_of rfl rfl rfl rfl) (ea_cons (ev_var (pv 0)) (ea_nil)) (hn := al_cons (al_nil))) (ev_var (pv 1)) (by rfl)) (es_cons (es_while (fun _ => 1000000) (passes_of rfl) (et_cmp (op_neDD (hu64 hr)) (by rfl) (ev_var (pv 3)) (ev_tup (ea_nil))) (es_cons (es_set (i := 3) sc_curve_common.nd rfl (Or.inl rfl) (ev_call (o_curve_headed T) hr (by decide) (by rfl) (takes_of rfl rfl rfl rfl) (ea_cons (ev_var (pv 3)) (ea_nil)) (hn := al_cons (al_nil)))) (es_one (es_par (i := 2) (j := 3) rfl sc_curve_common.nd rfl rfl (by decide) rfl rfl (ev_var (pv 3)) (ev_ix (fun _ _ => rfl) (ev_call (o_curve_parted T) hr (by decide) (by rfl) (takes_of rfl rfl rfl rfl) (ea_cons (ev_var (pv 2)) (ea_cons (ev_var (pv 3)) (ea_nil))) (hn := al_cons (al_cons (al_nil)))) (ev_int)) (by rfl))))) (es_one (es_ret (ev_var (pv 2)))))
theorem o_curve_common (T : Txt K mg) : DefOk P w K mg base 13 "curve_common" ["curve", "other"] m_curve_common := (d_curve_common T).ok (fun _ _ _ _ _ _ us hl => match us, hl with | [_, _], _ => rfl)
def b_odd_zeros : S := sSeq (sPar 1 2 (eTup (aCons (eK k_WHOLE) (aNil))) (eCall m_curve_headed (aCons (eVar 0) (aNil)))) (sSeq (sSet 3 (eCall m_curve_common (aCons (eVar 2) (aCons (eCall m_curve_slope (aCons (eVar 2) (aNil))) (aNil))))) (sSeq (sPar 4 5 (eOp2 dIx (eCall m_curve_parted (aCons (eVar 2) (aCons (eVar 3) (aNil)))) (eK (.int 0))) (eK (.bool true))) (sSeq ((fun ρ => whL (tBool (eOp2 dGt (eB (on1 dLen) (aCons (eVar 4) (aNil))) (eK (.int 1)))) (sSeq (sSet 6 (eCall m_curve_common (aCons (eVar 4) (aCons (eVar 3) (aNil))))) (sSeq (sIf (tTr (eVar 5)) (sSet 1 (eCall m_curve_product (aCons (eVar 1) (aCons (eOp2 dIx (eCall m_curve_parted (aCons (eVar 4) (aCons (eVar 6) (aNil)))) (eK (.int 0))) (aNil))))) (sNx)) (sPar3 4 3 5 (eVar 6) (eOp2 dIx (eCall m_curve_parted (aCons (eVar 3) (aCons (eVar 6) (aNil)))) (eK (.int 0))) (eNot (eVar 5))))) ((fun _ => 1000000) ρ) ρ)) (sRet (eVar 1)))))
def m_odd_zeros : Fn := bodyF 6 b_odd_zeros
theorem d_odd_zeros (T : Txt K mg) : DefS P w K mg base 14 "odd_zeros" s_odd_zeros ["curve"] m_odd_zeros := by
  obtain ⟨f, fd, hm, Fu⟩ := T.d_odd_zeros
  refine ⟨f, fd, fn_ok (k := 13) (m := 6) (body := b_odd_zeros) Fu sc_odd_zeros rfl rfl fun cdv A outer s H E hr => ?_, hm, Fu⟩
  exact es_cons (es_par (i := 1) (j := 2) rfl sc_odd_zeros.nd rfl rfl (by decide) rfl rfl (ev_tup (ea_cons (ev_const (by rfl) T.k_WHOLE) (ea_nil))) (ev_call (o_curve_headed T) hr (by decide) (by rfl) (takes_of rfl rfl rfl rfl) (ea_cons (ev_var (pv 0)) (ea_nil)) (hn := al_cons (al_nil))) (by rfl)) (es_cons (es_set (i := 3) sc_odd_zeros.nd rfl (Or.inl rfl) (ev_call (o_curve_common T) hr (by decide) (by rfl) (takes_of rfl rfl rfl rfl) (ea_cons (ev_var (pv 2)) (ea_cons (ev_call (o_curve_slope T) hr (by decide) (by rfl) (takes_of rfl rfl rfl rfl) (ea_cons (ev_var (pv 2)) (ea_nil)) (hn := al_cons (al_nil))) (ea_nil))) (hn := al_cons (al_cons (al_nil))))) (es_cons (es_par (i := 4) (j := 5) rfl sc_odd_zeros.nd rfl rfl (by decide) rfl rfl (ev_ix (fun _ _ => rfl) (ev_call (o_curve_parted T) hr (by decide) (by rfl) (takes_of rfl rfl rfl rfl) (ea_cons (ev_var (pv 2)) (ea_cons (ev_var (pv 3)) (ea_nil))) (hn := al_cons (al_cons (al_nil)))) (ev_int)) (ev_bl) (by rfl)) (es_cons (es_while (fun _ => 1000000) (passes_of rfl) (et_cmp (op_gtD (hu64 hr)) (by rfl) (ev_B cr_lenD (by rfl) T.b_len PySem.boot_len (ea_cons (ev_var (pv 4)) (ea_nil))) (ev_int)) (es_cons (es_set (i := 6) sc_odd_zeros.nd rfl (Or.inl rfl) (ev_call (o_curve_common T) hr (by decide) (by rfl) (takes_of rfl rfl rfl rfl) (ea_cons (ev_var (pv 4)) (ea_cons (ev_var (pv 3)) (ea_nil))) (hn := al_cons (al_cons (al_nil))))) (es_cons (es_if (et_truth (ev_var (pv 5))) (es_one (es_set (i := 1) sc_odd_zeros.nd rfl (Or.inl rfl) (ev_call (o_curve_product T) hr (by decide) (by rfl) (takes_of rfl rfl rfl rfl) (ea_cons (ev_var (pv 1)) (ea_cons (ev_ix (fun _ _ => rfl) (ev_call (o_curve_parted T) hr (by decide) (by rfl) (takes_of rfl rfl rfl rfl) (ea_cons (ev_var (pv 4)) (ea_cons (ev_var (pv 6)) (ea_nil))) (hn := al_cons (al_cons (al_nil)))) (ev_int)) (ea_nil))) (hn := al_cons (al_cons (al_nil)))))) (es_nil)) (es_one (es_par3 (i := 4) (j := 3) (l := 5) rfl sc_odd_zeros.nd rfl rfl rfl (by decide) (by decide) (by decide) rfl rfl rfl (ev_var (pv 6)) (ev_ix (fun _ _ => rfl) (ev_call (o_curve_parted T) hr (by decide) (by rfl) (takes_of rfl rfl rfl rfl) (ea_cons (ev_var (pv 3)) (ea_cons (ev_var (pv 6)) (ea_nil))) (hn := al_cons (al_cons (al_nil)))) (ev_int)) (ev_not (ev_var (pv 5)))))))) (es_one (es_ret (ev_var (pv 1)))))))
theorem o_odd_zeros (T : Txt K mg) : DefOk P w K mg base 14 "odd_zeros" ["curve"] m_odd_zeros := (d_odd_zeros T).ok (fun _ _ _ _ _ _ us hl => match us, hl with | [_], _ => rfl)
def b_sturm_curves : S := sSeq (sSet 1 (eLst (aCons (eVar 0) (aCons (eCall m_curve_slope (aCons (eVar 0) (aNil))) (aNil))))) (sSeq ((fun ρ => whL (tBool (eOp2 dNe (eOp2 dIx (eVar 1) (eOp1 dNeg (eK (.int 1)))) (eTup (aNil)))) (sExpr (eMt mAppend 1 (aCons (eCall m_curve_times (aCons (eOp2 dIx (eCall m_curve_parted (aCons (eOp2 dIx (eVar 1) (eOp1 dNeg (eK (.int 2)))) (aCons (eOp2 dIx (eVar 1) (eOp1 dNeg (eK (.int 1)))) (aNil)))) (eK (.int 1))) (aCons (eTup (aCons (eOp1 dNeg (eK (.int 1))) (aCons (eK (.int 1)) (aNil)))) (aNil)))) (aNil)))) ((fun _ => 1000000) ρ) ρ)) (sRet (eCut (eVar 1) (Ev.ret none) (bSome (eOp1 dNeg (eK (.int 1)))))))
def m_sturm_curves : Fn := bodyF 1 b_sturm_curves
theorem d_sturm_curves (T : Txt K mg) : DefS P w K mg base 12 "sturm_curves" s_sturm_curves ["curve"] m_sturm_curves := by
  obtain ⟨f, fd, hm, Fu⟩ := T.d_sturm_curves
  refine ⟨f, fd, fn_ok (k := 11) (m := 1) (body := b_sturm_curves) Fu sc_sturm_curves rfl rfl fun cdv A outer s H E hr => ?_, hm, Fu⟩
  exact es_cons (es_set (i := 1) sc_sturm_curves.nd rfl (Or.inl rfl) (ev_lst (ea_cons (ev_var (pv 0)) (ea_cons (ev_call (o_curve_slope T) hr (by decide) (by rfl) (takes_of rfl rfl rfl rfl) (ea_cons (ev_var (pv 0)) (ea_nil)) (hn := al_cons (al_nil))) (ea_nil))))) (es_cons (es_while (fun _ => 1000000) (passes_of rfl) (et_cmp (op_neDD (hu64 hr)) (by rfl) (ev_ix (fun _ _ => rfl) (ev_var (pv 1)) (ev_un un_negD (ev_int))) (ev_tup (ea_nil))) (es_one (es_expr (ev_append (pv 1) (ea_cons (ev_call (o_curve_times T) hr (by decide) (by rfl) (takes_of rfl rfl rfl rfl) (ea_cons (ev_ix (fun _ _ => rfl) (ev_call (o_curve_parted T) hr (by decide) (by rfl) (takes_of rfl rfl rfl rfl) (ea_cons (ev_ix (fun _ _ => rfl) (ev_var (pv 1)) (ev_un un_negD (ev_int))) (ea_cons (ev_ix (fun _ _ => rfl) (ev_var (pv 1)) (ev_un un_negD (ev_int))) (ea_nil))) (hn := al_cons (al_cons (al_nil)))) (ev_int)) (ea_cons (ev_tup (ea_cons (ev_un un_negD (ev_int)) (ea_cons (ev_int) (ea_nil)))) (ea_nil))) (hn := al_cons (al_cons (al_nil)))) (ea_nil)))))) (es_one (es_ret (ev_cut (ev_var (pv 1)) (eb_none) (eb_some (ev_un un_negD (ev_int)))))))
theorem o_sturm_curves (T : Txt K mg) : DefOk P w K mg base 12 "sturm_curves" ["curve"] m_sturm_curves := (d_sturm_curves T).ok (fun _ _ _ _ _ _ us hl => match us, hl with | [_], _ => rfl)
def b_turns_of : S := sSeq (sSet 2 (eLc [3] (iSeq (eLc [6] (iSeq (eVar 0)) (bNm 6) (Ev.ret true) (eOp2 dIx (eCall m_curve_in (aCons (eVar 6) (aCons (eVar 1) (aNil)))) (eK (.int 0))))) (bNm 3) (tBool (eOp2 dNe (eVar 3) (eK (.int 0)))) (eVar 3))) (sRet (eB (on1 dLen) (aCons (eLc [4, 5] (iZip (aCons (eVar 2) (aCons (eCut (eVar 2) (bSome (eK (.int 1))) (Ev.ret none)) (aNil)))) (bTp [bNm 4, bNm 5]) (tBool (eOp2 dNe (eOp2 dGt (eVar 4) (eK (.int 0))) (eOp2 dGt (eVar 5) (eK (.int 0))))) (eK (.int 1))) (aNil))))
def m_turns_of : Fn := bodyF 5 b_turns_of
theorem d_turns_of (T : Txt K mg) : DefS P w K mg base 4 "turns_of" s_turns_of ["chain", "x"] m_turns_of := by
  obtain ⟨f, fd, hm, Fu⟩ := T.d_turns_of
  refine ⟨f, fd, fn_ok (k := 3) (m := 5) (body := b_turns_of) Fu sc_turns_of rfl rfl fun cdv A outer s H E hr => ?_, hm, Fu⟩
  exact es_cons (es_setLc (i := 2) (own := [("own", 3)]) rfl sc_turns_of.nd rfl rfl (sw_true rfl rfl rfl (by decide +kernel)) (js := [3]) (blkOk_by (own := [("own", 3)]) (N := N_turns_of) (sc := defScope s_turns_of) (by decide +kernel)) (by decide) (ei_seq (ev_lc (own := [("curve", 6)]) rfl sc_turns_of.nd (js := [6]) (blkOk_by (own := [("curve", 6)]) (N := N_turns_of) (sc := defScope s_turns_of) (by decide +kernel)) (by decide) (ei_seq (ev_var (pv 0))) (fun _ _ _ _ _ => tb_nm (pg_name (i := 6) sc_turns_of.nd rfl (Or.inl rfl))) (fun _ _ _ _ _ => ets_nil) (fun _ _ _ _ _ => ev_ix (fun _ _ => rfl) (ev_call (o_curve_in T) hr (by decide) (by rfl) takes0 (ea_cons (ev_var (pv 6)) (ea_cons (ev_var (pv 1)) (ea_nil))) (hn := al_cons (al_cons (al_nil)))) (ev_int)))) (fun _ _ _ _ _ => tb_nm (pg_name (i := 3) sc_turns_of.nd rfl (Or.inl rfl))) (fun _ _ _ _ _ => ets_one (et_cmp (op_neDD (hu64 hr)) (by rfl) (ev_var (pv 3)) (ev_int))) (fun _ _ _ _ _ => ev_var (pv 3))) (es_one (es_ret (ev_B cr_lenD (by rfl) T.b_len PySem.boot_len (ea_cons (ev_lc (own := [("near", 4), ("far", 5)]) rfl sc_turns_of.nd (js := [4, 5]) (blkOk_by (own := [("near", 4), ("far", 5)]) (N := N_turns_of) (sc := defScope s_turns_of) (by decide +kernel)) (by decide) (ei_zip (by rfl) T.b_zip (ea_cons (ev_var (pv 2)) (ea_cons (ev_cut (ev_var (pv 2)) (eb_some (ev_int)) (eb_none)) (ea_nil)))) (fun _ _ _ _ _ => tb_tp rfl (tbs_cons (tb_nm (pg_name (i := 4) sc_turns_of.nd rfl (Or.inl rfl))) (tbs_cons (tb_nm (pg_name (i := 5) sc_turns_of.nd rfl (Or.inl rfl))) (tbs_nil))) rfl) (fun _ _ _ _ _ => ets_one (et_cmp (op_neDD (hu64 hr)) (by rfl) (ev_cmp (op_gtD (hu64 hr)) (by rfl) (ev_var (pv 4)) (ev_int)) (ev_cmp (op_gtD (hu64 hr)) (by rfl) (ev_var (pv 5)) (ev_int)))) (fun _ _ _ _ _ => ev_int)) (ea_nil)))))
theorem o_turns_of (T : Txt K mg) : DefOk P w K mg base 4 "turns_of" ["chain", "x"] m_turns_of := (d_turns_of T).ok (fun _ _ _ _ _ _ us hl => match us, hl with | [_, _], _ => rfl)
def b_zeros_inside : S := sRet (eOp2 dSub (eOp2 dSub (eCall m_turns_of (aCons (eVar 0) (aCons (eVar 1) (aNil)))) (eCall m_turns_of (aCons (eVar 0) (aCons (eVar 2) (aNil))))) (eB (on1 dInt) (aCons (eOp2 dEq (eCall m_curve_in (aCons (eOp2 dIx (eVar 0) (eK (.int 0))) (aCons (eVar 2) (aNil)))) (eK k_NOTHING)) (aNil))))
def m_zeros_inside : Fn := bodyF 0 b_zeros_inside
theorem d_zeros_inside (T : Txt K mg) : DefS P w K mg base 5 "zeros_inside" s_zeros_inside ["chain", "low", "high"] m_zeros_inside := by
  obtain ⟨f, fd, hm, Fu⟩ := T.d_zeros_inside
  refine ⟨f, fd, fn_ok (k := 4) (m := 0) (body := b_zeros_inside) Fu sc_zeros_inside rfl rfl fun cdv A outer s H E hr => ?_, hm, Fu⟩
  exact es_one (es_ret (ev_op op_subD (ev_op op_subD (ev_call (o_turns_of T) hr (by decide) (by rfl) (takes_of rfl rfl rfl rfl) (ea_cons (ev_var (pv 0)) (ea_cons (ev_var (pv 1)) (ea_nil))) (hn := al_cons (al_cons (al_nil)))) (ev_call (o_turns_of T) hr (by decide) (by rfl) (takes_of rfl rfl rfl rfl) (ea_cons (ev_var (pv 0)) (ea_cons (ev_var (pv 2)) (ea_nil))) (hn := al_cons (al_cons (al_nil))))) (ev_Ty cr_intD (by rfl) T.b_int PyProof.Rows.boot_int (ea_cons (ev_cmp (op_eqDD (hu64 hr)) (by rfl) (ev_call (o_curve_in T) hr (by decide) (by rfl) (takes_of rfl rfl rfl rfl) (ea_cons (ev_ix (fun _ _ => rfl) (ev_var (pv 0)) (ev_int)) (ea_cons (ev_var (pv 2)) (ea_nil))) (hn := al_cons (al_cons (al_nil)))) (ev_const (by rfl) T.k_NOTHING)) (ea_nil)))))
theorem o_zeros_inside (T : Txt K mg) : DefOk P w K mg base 5 "zeros_inside" ["chain", "low", "high"] m_zeros_inside := (d_zeros_inside T).ok (fun _ _ _ _ _ _ us hl => match us, hl with | [_, _, _], _ => rfl)
def b_first_off : S := sSeq (sSet 3 (eOp2 dAdd (eB (on1 dLen) (aCons (eVar 0) (aNil))) (eK (.int 1)))) (sSeq (sSet 4 (eCall m_over (aCons (eCall m_minus (aCons (eVar 2) (aCons (eVar 1) (aNil)))) (aCons (eTup (aCons (eVar 3) (aCons (eK (.int 1)) (aNil)))) (aNil))))) (sSeq (sSet 5 (eLc [6] (iRg gR2 (aCons (eK (.int 1)) (aCons (eVar 3) (aNil)))) (bNm 6) (Ev.ret true) (eCall m_plus (aCons (eVar 1) (aCons (eCall m_times (aCons (eVar 4) (aCons (eTup (aCons (eVar 6) (aCons (eK (.int 1)) (aNil)))) (aNil)))) (aNil)))))) (sRet (eOp2 dIx (eLc [7] (iSeq (eVar 5)) (bNm 7) (tBool (eOp2 dNe (eCall m_curve_in (aCons (eVar 0) (aCons (eVar 7) (aNil)))) (eK k_NOTHING))) (eVar 7)) (eK (.int 0))))))
def m_first_off : Fn := bodyF 5 b_first_off
theorem d_first_off (T : Txt K mg) : DefS P w K mg base 4 "first_off" s_first_off ["curve", "low", "high"] m_first_off := by
  obtain ⟨f, fd, hm, Fu⟩ := T.d_first_off
  refine ⟨f, fd, fn_ok (k := 3) (m := 5) (body := b_first_off) Fu sc_first_off rfl rfl fun cdv A outer s H E hr => ?_, hm, Fu⟩
  exact es_cons (es_set (i := 3) sc_first_off.nd rfl (Or.inl rfl) (ev_op op_addD (ev_B cr_lenD (by rfl) T.b_len PySem.boot_len (ea_cons (ev_var (pv 0)) (ea_nil))) (ev_int))) (es_cons (es_set (i := 4) sc_first_off.nd rfl (Or.inr rfl) (ev_call (o_over T) hr (by decide) (by rfl) (takes_of rfl rfl rfl rfl) (ea_cons (ev_call (o_minus T) hr (by decide) (by rfl) (takes_of rfl rfl rfl rfl) (ea_cons (ev_var (pv 2)) (ea_cons (ev_var (pv 1)) (ea_nil))) (hn := al_cons (al_cons (al_nil)))) (ea_cons (ev_tup (ea_cons (ev_var (pv 3)) (ea_cons (ev_int) (ea_nil)))) (ea_nil))) (hn := al_cons (al_cons (al_nil))))) (es_cons (es_setLc (i := 5) (own := [("k", 6)]) rfl sc_first_off.nd rfl rfl (sw_true rfl rfl rfl (by decide +kernel)) (js := [6]) (blkOk_by (own := [("k", 6)]) (N := N_first_off) (sc := defScope s_first_off) (by decide +kernel)) (by decide) (ei_rng2 (by rfl) T.b_range (ea_cons (ev_int) (ea_cons (ev_var (pv 3)) (ea_nil)))) (fun _ _ _ _ _ => tb_nm (pg_name (i := 6) sc_first_off.nd rfl (Or.inl rfl))) (fun _ _ _ _ _ => ets_nil) (fun _ _ _ _ _ => ev_call (o_plus T) hr (by decide) (by rfl) takes0 (ea_cons (ev_var (pv 1)) (ea_cons (ev_call (o_times T) hr (by decide) (by rfl) takes0 (ea_cons (ev_var (pv 4)) (ea_cons (ev_tup (ea_cons (ev_var (pv 6)) (ea_cons (ev_int) (ea_nil)))) (ea_nil))) (hn := al_cons (al_cons (al_nil)))) (ea_nil))) (hn := al_cons (al_cons (al_nil))))) (es_one (es_ret (ev_ix (fun _ _ => rfl) (ev_lc (own := [("x", 7)]) rfl sc_first_off.nd (js := [7]) (blkOk_by (own := [("x", 7)]) (N := N_first_off) (sc := defScope s_first_off) (by decide +kernel)) (by decide) (ei_seq (ev_var (pv 5))) (fun _ _ _ _ _ => tb_nm (pg_name (i := 7) sc_first_off.nd rfl (Or.inl rfl))) (fun _ _ _ _ _ => ets_one (et_cmp (op_neDD (hu64 hr)) (by rfl) (ev_call (o_curve_in T) hr (by decide) (by rfl) takes0 (ea_cons (ev_var (pv 0)) (ea_cons (ev_var (pv 7)) (ea_nil))) (hn := al_cons (al_cons (al_nil)))) (ev_const (by rfl) T.k_NOTHING))) (fun _ _ _ _ _ => ev_var (pv 7))) (ev_int))))))
theorem o_first_off (T : Txt K mg) : DefOk P w K mg base 4 "first_off" ["curve", "low", "high"] m_first_off := (d_first_off T).ok (fun _ _ _ _ _ _ us hl => match us, hl with | [_, _, _], _ => rfl)
def b_found_dip : S := sSeq (sFor (iSeq (eTup (aCons (eVar 1) (aCons (eVar 2) (aNil))))) (bNm 3) (sIf (tBool (eOp2 dLt (eOp2 dIx (eCall m_curve_in (aCons (eVar 0) (aCons (eVar 3) (aNil)))) (eK (.int 0))) (eK (.int 0)))) (sRet (eVar 3)) (sNx))) (sSeq (sIf (tOrM (tBool (eOp2 dEq (eVar 0) (eTup (aNil)))) (tBool (eOp2 dEq (eVar 1) (eVar 2)))) (sRet (eK .none)) (sNx)) (sSeq (sSet 4 (eCall m_sturm_curves (aCons (eCall m_odd_zeros (aCons (eVar 0) (aNil))) (aNil)))) ((fun ρ => whL (tTr (eK (.bool true))) (sSeq (sSet 5 (eCall m_times (aCons (eCall m_plus (aCons (eVar 1) (aCons (eVar 2) (aNil)))) (aCons (eK k_HALF) (aNil))))) (sSeq (sIf (tBool (eOp2 dLt (eOp2 dIx (eCall m_curve_in (aCons (eVar 0) (aCons (eVar 5) (aNil)))) (eK (.int 0))) (eK (.int 0)))) (sRet (eVar 5)) (sNx)) (sIf (tBool (eOp2 dGt (eCall m_zeros_inside (aCons (eVar 4) (aCons (eVar 1) (aCons (eVar 5) (aNil))))) (eK (.int 0)))) (sSet 2 (eVar 5)) (sIf (tBool (eOp2 dGt (eCall m_zeros_inside (aCons (eVar 4) (aCons (eVar 5) (aCons (eVar 2) (aNil))))) (eK (.int 0)))) (sSet 1 (eVar 5)) (sSeq (sSet 6 (eLst (aCons (eCall m_first_off (aCons (eVar 0) (aCons (eVar 1) (aCons (eVar 5) (aNil))))) (aCons (eCall m_first_off (aCons (eVar 0) (aCons (eVar 5) (aCons (eVar 2) (aNil))))) (aNil))))) (sSeq (sSet 7 (eLc [8] (iSeq (eVar 6)) (bNm 8) (tBool (eOp2 dLt (eOp2 dIx (eCall m_curve_in (aCons (eVar 0) (aCons (eVar 8) (aNil)))) (eK (.int 0))) (eK (.int 0)))) (eVar 8))) (sRet (eIf (tBool (eOp2 dNe (eVar 7) (eLst (aNil)))) (eOp2 dIx (eVar 7) (eK (.int 0))) (eK .none))))))))) ((fun _ => 1000000) ρ) ρ))))
def m_found_dip : Fn := bodyF 6 b_found_dip
theorem d_found_dip (T : Txt K mg) : DefS P w K mg base 15 "found_dip" s_found_dip ["curve", "low", "high"] m_found_dip := by
  obtain ⟨f, fd, hm, Fu⟩ := T.d_found_dip
  refine ⟨f, fd, fn_ok (k := 14) (m := 6) (body := b_found_dip) Fu sc_found_dip rfl rfl fun cdv A outer s H E hr => ?_, hm, Fu⟩
  exact es_cons (es_for (js := [3]) (passes_of rfl) rfl (ei_seq (ev_tup (ea_cons (ev_var (pv 1)) (ea_cons (ev_var (pv 2)) (ea_nil))))) (tb_nm (pg_name (i := 3) sc_found_dip.nd rfl (Or.inl rfl))) (es_one (es_if (et_cmp (op_ltD (hu64 hr)) (by rfl) (ev_ix (fun _ _ => rfl) (ev_call (o_curve_in T) hr (by decide) (by rfl) (takes_of rfl rfl rfl rfl) (ea_cons (ev_var (pv 0)) (ea_cons (ev_var (pv 3)) (ea_nil))) (hn := al_cons (al_cons (al_nil)))) (ev_int)) (ev_int)) (es_one (es_ret (ev_var (pv 3)))) (es_nil)))) (es_cons (es_if (PW.pt (ew_or (et_cmp (op_eqDD (hu64 hr)) (by rfl) (ev_var (pv 0)) (ev_tup (ea_nil))) (ew_or1 (et_cmp (op_eqDD (hu64 hr)) (by rfl) (ev_var (pv 1)) (ev_var (pv 2)))))) (es_one (es_ret (ev_non))) (es_nil)) (es_cons (es_set (i := 4) sc_found_dip.nd rfl (Or.inl rfl) (ev_call (o_sturm_curves T) hr (by decide) (by rfl) (takes_of rfl rfl rfl rfl) (ea_cons (ev_call (o_odd_zeros T) hr (by decide) (by rfl) (takes_of rfl rfl rfl rfl) (ea_cons (ev_var (pv 0)) (ea_nil)) (hn := al_cons (al_nil))) (ea_nil)) (hn := al_cons (al_nil)))) (es_one (es_while (fun _ => 1000000) (passes_of rfl) (et_truth (ev_bl)) (es_cons (es_set (i := 5) sc_found_dip.nd rfl (Or.inl rfl) (ev_call (o_times T) hr (by decide) (by rfl) (takes_of rfl rfl rfl rfl) (ea_cons (ev_call (o_plus T) hr (by decide) (by rfl) (takes_of rfl rfl rfl rfl) (ea_cons (ev_var (pv 1)) (ea_cons (ev_var (pv 2)) (ea_nil))) (hn := al_cons (al_cons (al_nil)))) (ea_cons (ev_const (by rfl) T.k_HALF) (ea_nil))) (hn := al_cons (al_cons (al_nil))))) (es_cons (es_if (et_cmp (op_ltD (hu64 hr)) (by rfl) (ev_ix (fun _ _ => rfl) (ev_call (o_curve_in T) hr (by decide) (by rfl) (takes_of rfl rfl rfl rfl) (ea_cons (ev_var (pv 0)) (ea_cons (ev_var (pv 5)) (ea_nil))) (hn := al_cons (al_cons (al_nil)))) (ev_int)) (ev_int)) (es_one (es_ret (ev_var (pv 5)))) (es_nil)) (es_one (es_if (et_cmp (op_gtD (hu64 hr)) (by rfl) (ev_call (o_zeros_inside T) hr (by decide) (by rfl) (takes_of rfl rfl rfl rfl) (ea_cons (ev_var (pv 4)) (ea_cons (ev_var (pv 1)) (ea_cons (ev_var (pv 5)) (ea_nil)))) (hn := al_cons (al_cons (al_cons (al_nil))))) (ev_int)) (es_one (es_set (i := 2) sc_found_dip.nd rfl (Or.inl rfl) (ev_var (pv 5)))) (es_one (es_if (et_cmp (op_gtD (hu64 hr)) (by rfl) (ev_call (o_zeros_inside T) hr (by decide) (by rfl) (takes_of rfl rfl rfl rfl) (ea_cons (ev_var (pv 4)) (ea_cons (ev_var (pv 5)) (ea_cons (ev_var (pv 2)) (ea_nil)))) (hn := al_cons (al_cons (al_cons (al_nil))))) (ev_int)) (es_one (es_set (i := 1) sc_found_dip.nd rfl (Or.inl rfl) (ev_var (pv 5)))) (es_cons (es_set (i := 6) sc_found_dip.nd rfl (Or.inl rfl) (ev_lst (ea_cons (ev_call (o_first_off T) hr (by decide) (by rfl) (takes_of rfl rfl rfl rfl) (ea_cons (ev_var (pv 0)) (ea_cons (ev_var (pv 1)) (ea_cons (ev_var (pv 5)) (ea_nil)))) (hn := al_cons (al_cons (al_cons (al_nil))))) (ea_cons (ev_call (o_first_off T) hr (by decide) (by rfl) (takes_of rfl rfl rfl rfl) (ea_cons (ev_var (pv 0)) (ea_cons (ev_var (pv 5)) (ea_cons (ev_var (pv 2)) (ea_nil)))) (hn := al_cons (al_cons (al_cons (al_nil))))) (ea_nil))))) (es_cons (es_setLc (i := 7) (own := [("x", 8)]) rfl sc_found_dip.nd rfl rfl (sw_true rfl rfl rfl (by decide +kernel)) (js := [8]) (blkOk_by (own := [("x", 8)]) (N := N_found_dip) (sc := defScope s_found_dip) (by decide +kernel)) (by decide) (ei_seq (ev_var (pv 6))) (fun _ _ _ _ _ => tb_nm (pg_name (i := 8) sc_found_dip.nd rfl (Or.inl rfl))) (fun _ _ _ _ _ => ets_one (et_cmp (op_ltD (hu64 hr)) (by rfl) (ev_ix (fun _ _ => rfl) (ev_call (o_curve_in T) hr (by decide) (by rfl) takes0 (ea_cons (ev_var (pv 0)) (ea_cons (ev_var (pv 8)) (ea_nil))) (hn := al_cons (al_cons (al_nil)))) (ev_int)) (ev_int))) (fun _ _ _ _ _ => ev_var (pv 8))) (es_one (es_ret (ev_if (et_cmp (op_neDD (hu64 hr)) (by rfl) (ev_var (pv 7)) (ev_lst (ea_nil))) (ev_ix (fun _ _ => rfl) (ev_var (pv 7)) (ev_int)) (ev_non))))))))))))))))
theorem o_found_dip (T : Txt K mg) : DefOk P w K mg base 15 "found_dip" ["curve", "low", "high"] m_found_dip := (d_found_dip T).ok (fun _ _ _ _ _ _ us hl => match us, hl with | [_, _, _], _ => rfl)
def b_never_dips : S := sSeq (sTgt (bTp [bNm 3, bNm 4]) (eCall m_sure_stretch (aCons (eVar 1) (aCons (eVar 2) (aNil))))) (sRet (eOp2 dIs (eCall m_found_dip (aCons (eCall (m_tuple_of 8) (aCons (eVar 0) (aNil))) (aCons (eVar 3) (aCons (eVar 4) (aNil))))) (eK .none)))
def m_never_dips : Fn := bodyF 2 b_never_dips
theorem d_never_dips (T : Txt K mg) : DefS P w K mg base 16 "never_dips" s_never_dips ["curve", "low", "high"] m_never_dips := by
  obtain ⟨f, fd, hm, Fu⟩ := T.d_never_dips
  refine ⟨f, fd, fn_ok (k := 15) (m := 2) (body := b_never_dips) Fu sc_never_dips rfl rfl fun cdv A outer s H E hr => ?_, hm, Fu⟩
  exact es_cons (es_tgt (js := [3, 4]) (ev_call (o_sure_stretch T) hr (by decide) (by rfl) (takes_of rfl rfl rfl rfl) (ea_cons (ev_var (pv 1)) (ea_cons (ev_var (pv 2)) (ea_nil))) (hn := al_cons (al_cons (al_nil)))) (tb_tp rfl (tbs_cons (tb_nm (pg_name (i := 3) sc_never_dips.nd rfl (Or.inl rfl))) (tbs_cons (tb_nm (pg_name (i := 4) sc_never_dips.nd rfl (Or.inl rfl))) (tbs_nil))) rfl)) (es_one (es_ret (ev_cmp op_isD (by rfl) (ev_call (o_found_dip T) hr (by decide) (by rfl) (takes_of rfl rfl rfl rfl) (ea_cons (ev_call (o_tuple_of T 8) hr (by decide) (by rfl) (takes_of rfl rfl rfl rfl) (ea_cons (ev_var (pv 0)) (ea_nil)) (hn := al_cons (al_nil))) (ea_cons (ev_var (pv 3)) (ea_cons (ev_var (pv 4)) (ea_nil)))) (hn := al_cons (al_cons (al_cons (al_nil))))) (ev_non))))
theorem o_never_dips (T : Txt K mg) : DefOk P w K mg base 16 "never_dips" ["curve", "low", "high"] m_never_dips := (d_never_dips T).ok (fun _ _ _ _ _ _ us hl => match us, hl with | [_, _, _], _ => rfl)
def b_dip : S := sSeq (sTgt (bTp [bNm 3, bNm 4]) (eCall m_sure_stretch (aCons (eVar 1) (aCons (eVar 2) (aNil))))) (sSeq (sSet 5 (eCall m_found_dip (aCons (eCall (m_tuple_of 8) (aCons (eVar 0) (aNil))) (aCons (eVar 3) (aCons (eVar 4) (aNil)))))) (sSeq (sIf (tBool (eOp2 dIs (eVar 5) (eK .none))) (sRaise "CanNot") (sNx)) (sRet (eVar 5))))
def m_dip : Fn := bodyF 3 b_dip
theorem d_dip (T : Txt K mg) : DefS P w K mg base 16 "dip" s_dip ["curve", "low", "high"] m_dip := by
  obtain ⟨f, fd, hm, Fu⟩ := T.d_dip
  refine ⟨f, fd, fn_ok (k := 15) (m := 3) (body := b_dip) Fu sc_dip rfl rfl fun cdv A outer s H E hr => ?_, hm, Fu⟩
  exact es_cons (es_tgt (js := [3, 4]) (ev_call (o_sure_stretch T) hr (by decide) (by rfl) (takes_of rfl rfl rfl rfl) (ea_cons (ev_var (pv 1)) (ea_cons (ev_var (pv 2)) (ea_nil))) (hn := al_cons (al_cons (al_nil)))) (tb_tp rfl (tbs_cons (tb_nm (pg_name (i := 3) sc_dip.nd rfl (Or.inl rfl))) (tbs_cons (tb_nm (pg_name (i := 4) sc_dip.nd rfl (Or.inl rfl))) (tbs_nil))) rfl)) (es_cons (es_set (i := 5) sc_dip.nd rfl (Or.inl rfl) (ev_call (o_found_dip T) hr (by decide) (by rfl) (takes_of rfl rfl rfl rfl) (ea_cons (ev_call (o_tuple_of T 8) hr (by decide) (by rfl) (takes_of rfl rfl rfl rfl) (ea_cons (ev_var (pv 0)) (ea_nil)) (hn := al_cons (al_nil))) (ea_cons (ev_var (pv 3)) (ea_cons (ev_var (pv 4)) (ea_nil)))) (hn := al_cons (al_cons (al_cons (al_nil)))))) (es_cons (es_if (et_cmp op_isD (by rfl) (ev_var (pv 5)) (ev_non)) (es_one (es_raise T.e_CanNot.choose_spec rfl (takes_of rfl rfl rfl rfl) (by rfl))) (es_nil)) (es_one (es_ret (ev_var (pv 5))))))
theorem o_dip (T : Txt K mg) : DefOk P w K mg base 16 "dip" ["curve", "low", "high"] m_dip := (d_dip T).ok (fun _ _ _ _ _ _ us hl => match us, hl with | [_, _, _], _ => rfl)
def b_zeros_along : S := sSeq (sTgt (bTp [bNm 3, bNm 4]) (eCall m_sure_stretch (aCons (eVar 1) (aCons (eVar 2) (aNil))))) (sSeq (sSet 5 (eCall (m_tuple_of 8) (aCons (eVar 0) (aNil)))) (sSeq (sIf (tBool (eOp2 dEq (eVar 5) (eTup (aNil)))) (sRaise "CanNot") (sNx)) (sSeq (sSet 6 (eOp2 dIx (eCall m_curve_parted (aCons (eVar 5) (aCons (eCall m_curve_common (aCons (eVar 5) (aCons (eCall m_curve_slope (aCons (eVar 5) (aNil))) (aNil)))) (aNil)))) (eK (.int 0)))) (sSeq (sSet 7 (eCall m_sturm_curves (aCons (eVar 6) (aNil)))) (sSeq (sSet 8 (eSortSet (eLst (aCons (eVar 3) (aCons (eVar 4) (aNil)))))) (sRet (eOp2 dAdd (eOp2 dMul (eCall m_zeros_inside (aCons (eVar 7) (aCons (eVar 3) (aCons (eVar 4) (aNil))))) (eB (on1 dInt) (aCons (eOp2 dNe (eVar 3) (eVar 4)) (aNil)))) (eB (on1 dLen) (aCons (eLc [9] (iSeq (eVar 8)) (bNm 9) (tBool (eOp2 dEq (eCall m_curve_in (aCons (eVar 5) (aCons (eVar 9) (aNil)))) (eK k_NOTHING))) (eVar 9)) (aNil))))))))))
def m_zeros_along : Fn := bodyF 7 b_zeros_along
theorem d_zeros_along (T : Txt K mg) : DefS P w K mg base 14 "zeros_along" s_zeros_along ["curve", "low", "high"] m_zeros_along := by
  obtain ⟨f, fd, hm, Fu⟩ := T.d_zeros_along
  refine ⟨f, fd, fn_ok (k := 13) (m := 7) (body := b_zeros_along) Fu sc_zeros_along rfl rfl fun cdv A outer s H E hr => ?_, hm, Fu⟩
  exact es_cons (es_tgt (js := [3, 4]) (ev_call (o_sure_stretch T) hr (by decide) (by rfl) (takes_of rfl rfl rfl rfl) (ea_cons (ev_var (pv 1)) (ea_cons (ev_var (pv 2)) (ea_nil))) (hn := al_cons (al_cons (al_nil)))) (tb_tp rfl (tbs_cons (tb_nm (pg_name (i := 3) sc_zeros_along.nd rfl (Or.inl rfl))) (tbs_cons (tb_nm (pg_name (i := 4) sc_zeros_along.nd rfl (Or.inl rfl))) (tbs_nil))) rfl)) (es_cons (es_set (i := 5) sc_zeros_along.nd rfl (Or.inr rfl) (ev_call (o_tuple_of T 8) hr (by decide) (by rfl) (takes_of rfl rfl rfl rfl) (ea_cons (ev_var (pv 0)) (ea_nil)) (hn := al_cons (al_nil)))) (es_cons (es_if (et_cmp (op_eqDD (hu64 hr)) (by rfl) (ev_var (pv 5)) (ev_tup (ea_nil))) (es_one (es_raise T.e_CanNot.choose_spec rfl (takes_of rfl rfl rfl rfl) (by rfl))) (es_nil)) (es_cons (es_set (i := 6) sc_zeros_along.nd rfl (Or.inl rfl) (ev_ix (fun _ _ => rfl) (ev_call (o_curve_parted T) hr (by decide) (by rfl) (takes_of rfl rfl rfl rfl) (ea_cons (ev_var (pv 5)) (ea_cons (ev_call (o_curve_common T) hr (by decide) (by rfl) (takes_of rfl rfl rfl rfl) (ea_cons (ev_var (pv 5)) (ea_cons (ev_call (o_curve_slope T) hr (by decide) (by rfl) (takes_of rfl rfl rfl rfl) (ea_cons (ev_var (pv 5)) (ea_nil)) (hn := al_cons (al_nil))) (ea_nil))) (hn := al_cons (al_cons (al_nil)))) (ea_nil))) (hn := al_cons (al_cons (al_nil)))) (ev_int))) (es_cons (es_set (i := 7) sc_zeros_along.nd rfl (Or.inl rfl) (ev_call (o_sturm_curves T) hr (by decide) (by rfl) (takes_of rfl rfl rfl rfl) (ea_cons (ev_var (pv 6)) (ea_nil)) (hn := al_cons (al_nil)))) (es_cons (es_set (i := 8) sc_zeros_along.nd rfl (Or.inl rfl) (ev_sortSet rfl (hu64 hr) (by rfl) T.b_sorted (by rfl) T.b_set (ev_lst (ea_cons (ev_var (pv 3)) (ea_cons (ev_var (pv 4)) (ea_nil)))))) (es_one (es_ret (ev_op op_addD (ev_op op_mulD (ev_call (o_zeros_inside T) hr (by decide) (by rfl) (takes_of rfl rfl rfl rfl) (ea_cons (ev_var (pv 7)) (ea_cons (ev_var (pv 3)) (ea_cons (ev_var (pv 4)) (ea_nil)))) (hn := al_cons (al_cons (al_cons (al_nil))))) (ev_Ty cr_intD (by rfl) T.b_int PyProof.Rows.boot_int (ea_cons (ev_cmp (op_neDD (hu64 hr)) (by rfl) (ev_var (pv 3)) (ev_var (pv 4))) (ea_nil)))) (ev_B cr_lenD (by rfl) T.b_len PySem.boot_len (ea_cons (ev_lc (own := [("x", 9)]) rfl sc_zeros_along.nd (js := [9]) (blkOk_by (own := [("x", 9)]) (N := N_zeros_along) (sc := defScope s_zeros_along) (by decide +kernel)) (by decide) (ei_seq (ev_var (pv 8))) (fun _ _ _ _ _ => tb_nm (pg_name (i := 9) sc_zeros_along.nd rfl (Or.inl rfl))) (fun _ _ _ _ _ => ets_one (et_cmp (op_eqDD (hu64 hr)) (by rfl) (ev_call (o_curve_in T) hr (by decide) (by rfl) takes0 (ea_cons (ev_var (pv 5)) (ea_cons (ev_var (pv 9)) (ea_nil))) (hn := al_cons (al_cons (al_nil)))) (ev_const (by rfl) T.k_NOTHING))) (fun _ _ _ _ _ => ev_var (pv 9))) (ea_nil)))))))))))
theorem o_zeros_along (T : Txt K mg) : DefOk P w K mg base 14 "zeros_along" ["curve", "low", "high"] m_zeros_along := (d_zeros_along T).ok (fun _ _ _ _ _ _ us hl => match us, hl with | [_, _, _], _ => rfl)
def b_curve_sum : S := sSeq (sPar 2 3 (eCall (m_tuple_of 8) (aCons (eVar 0) (aNil))) (eCall (m_tuple_of 8) (aCons (eVar 1) (aNil)))) (sSeq (sSet 4 (eB (on2 dMax2) (aCons (eB (on1 dLen) (aCons (eVar 2) (aNil))) (aCons (eB (on1 dLen) (aCons (eVar 3) (aNil))) (aNil))))) (sSeq (sPar 5 6 (eOp2 dAdd (eVar 2) (eOp2 dRepT (eTup (aCons (eK k_NOTHING) (aNil))) (eOp2 dSub (eVar 4) (eB (on1 dLen) (aCons (eVar 2) (aNil)))))) (eOp2 dAdd (eVar 3) (eOp2 dRepT (eTup (aCons (eK k_NOTHING) (aNil))) (eOp2 dSub (eVar 4) (eB (on1 dLen) (aCons (eVar 3) (aNil))))))) (sRet (eCall m_curve_of (aCons (eLc [7, 8] (iZip (aCons (eVar 5) (aCons (eVar 6) (aNil)))) (bTp [bNm 7, bNm 8]) (Ev.ret true) (eCall m_plus (aCons (eVar 7) (aCons (eVar 8) (aNil))))) (aNil))))))
def m_curve_sum : Fn := bodyF 7 b_curve_sum
theorem d_curve_sum (T : Txt K mg) : DefS P w K mg base 10 "curve_sum" s_curve_sum ["curve", "other"] m_curve_sum := by
  obtain ⟨f, fd, hm, Fu⟩ := T.d_curve_sum
  refine ⟨f, fd, fn_ok (k := 9) (m := 7) (body := b_curve_sum) Fu sc_curve_sum rfl rfl fun cdv A outer s H E hr => ?_, hm, Fu⟩
  exact es_cons (es_par (i := 2) (j := 3) rfl sc_curve_sum.nd rfl rfl (by decide) rfl rfl (ev_call (o_tuple_of T 8) hr (by decide) (by rfl) (takes_of rfl rfl rfl rfl) (ea_cons (ev_var (pv 0)) (ea_nil)) (hn := al_cons (al_nil))) (ev_call (o_tuple_of T 8) hr (by decide) (by rfl) (takes_of rfl rfl rfl rfl) (ea_cons (ev_var (pv 1)) (ea_nil)) (hn := al_cons (al_nil))) (by rfl)) (es_cons (es_set (i := 4) sc_curve_sum.nd rfl (Or.inl rfl) (ev_B (cr_max2D rfl) (by rfl) T.b_max boot_max (ea_cons (ev_B cr_lenD (by rfl) T.b_len PySem.boot_len (ea_cons (ev_var (pv 2)) (ea_nil))) (ea_cons (ev_B cr_lenD (by rfl) T.b_len PySem.boot_len (ea_cons (ev_var (pv 3)) (ea_nil))) (ea_nil))))) (es_cons (es_par (i := 5) (j := 6) rfl sc_curve_sum.nd rfl rfl (by decide) rfl rfl (ev_op op_addD (ev_var (pv 2)) (ev_op op_repTD (ev_tup (ea_cons (ev_const (by rfl) T.k_NOTHING) (ea_nil))) (ev_op op_subD (ev_var (pv 4)) (ev_B cr_lenD (by rfl) T.b_len PySem.boot_len (ea_cons (ev_var (pv 2)) (ea_nil)))))) (ev_op op_addD (ev_var (pv 3)) (ev_op op_repTD (ev_tup (ea_cons (ev_const (by rfl) T.k_NOTHING) (ea_nil))) (ev_op op_subD (ev_var (pv 4)) (ev_B cr_lenD (by rfl) T.b_len PySem.boot_len (ea_cons (ev_var (pv 3)) (ea_nil)))))) (by rfl)) (es_one (es_ret (ev_call (o_curve_of T) hr (by decide) (by rfl) (takes_of rfl rfl rfl rfl) (ea_cons (ev_lc (own := [("x", 7), ("y", 8)]) rfl sc_curve_sum.nd (js := [7, 8]) (blkOk_by (own := [("x", 7), ("y", 8)]) (N := N_curve_sum) (sc := defScope s_curve_sum) (by decide +kernel)) (by decide) (ei_zip (by rfl) T.b_zip (ea_cons (ev_var (pv 5)) (ea_cons (ev_var (pv 6)) (ea_nil)))) (fun _ _ _ _ _ => tb_tp rfl (tbs_cons (tb_nm (pg_name (i := 7) sc_curve_sum.nd rfl (Or.inl rfl))) (tbs_cons (tb_nm (pg_name (i := 8) sc_curve_sum.nd rfl (Or.inl rfl))) (tbs_nil))) rfl) (fun _ _ _ _ _ => ets_nil) (fun _ _ _ _ _ => ev_call (o_plus T) hr (by decide) (by rfl) takes0 (ea_cons (ev_var (pv 7)) (ea_cons (ev_var (pv 8)) (ea_nil))) (hn := al_cons (al_cons (al_nil))))) (ea_nil)) (hn := al_cons (al_nil)))))))
theorem o_curve_sum (T : Txt K mg) : DefOk P w K mg base 10 "curve_sum" ["curve", "other"] m_curve_sum := (d_curve_sum T).ok (fun _ _ _ _ _ _ us hl => match us, hl with | [_, _], _ => rfl)
def b_curve_less : S := sRet (eCall m_curve_sum (aCons (eVar 0) (aCons (eCall m_curve_times (aCons (eVar 1) (aCons (eTup (aCons (eOp1 dNeg (eK (.int 1))) (aCons (eK (.int 1)) (aNil)))) (aNil)))) (aNil))))
def m_curve_less : Fn := bodyF 0 b_curve_less
theorem d_curve_less (T : Txt K mg) : DefS P w K mg base 12 "curve_less" s_curve_less ["curve", "other"] m_curve_less := by
  obtain ⟨f, fd, hm, Fu⟩ := T.d_curve_less
  refine ⟨f, fd, fn_ok (k := 11) (m := 0) (body := b_curve_less) Fu sc_curve_less rfl rfl fun cdv A outer s H E hr => ?_, hm, Fu⟩
  exact es_one (es_ret (ev_call (o_curve_sum T) hr (by decide) (by rfl) (takes_of rfl rfl rfl rfl) (ea_cons (ev_var (pv 0)) (ea_cons (ev_call (o_curve_times T) hr (by decide) (by rfl) (takes_of rfl rfl rfl rfl) (ea_cons (ev_var (pv 1)) (ea_cons (ev_tup (ea_cons (ev_un un_negD (ev_int)) (ea_cons (ev_int) (ea_nil)))) (ea_nil))) (hn := al_cons (al_cons (al_nil)))) (ea_nil))) (hn := al_cons (al_cons (al_nil)))))
theorem o_curve_less (T : Txt K mg) : DefOk P w K mg base 12 "curve_less" ["curve", "other"] m_curve_less := (d_curve_less T).ok (fun _ _ _ _ _ _ us hl => match us, hl with | [_, _], _ => rfl)
def b_folk_in : S := sSeq (sSet 1 eDnew) (sSeq (sFor (iSeq (eVar 0)) (bNm 2) (sFor (iSeq (eVar 2)) (bNm 3) (sDput 1 (eVar 3) (eK (.bool true))))) (sRet (eB (on1 dTuple) (aCons (eSortDic 1) (aNil)))))
def m_folk_in : Fn := bodyF 3 b_folk_in
theorem d_folk_in (T : Txt K mg) : DefS P w K mg base 1 "folk_in" s_folk_in ["roster"] m_folk_in := by
  obtain ⟨f, fd, hm, Fu⟩ := T.d_folk_in
  refine ⟨f, fd, fn_ok (k := 0) (m := 3) (body := b_folk_in) Fu sc_folk_in rfl rfl fun cdv A outer s H E hr => ?_, hm, Fu⟩
  exact es_cons (es_set (i := 1) sc_folk_in.nd rfl (Or.inl rfl) ev_dnew) (es_cons (es_for (js := [2]) (passes_of rfl) rfl (ei_seq (ev_var (pv 0))) (tb_nm (pg_name (i := 2) sc_folk_in.nd rfl (Or.inl rfl))) (es_one (es_for (js := [3]) (passes_of rfl) rfl (ei_seq (ev_var (pv 2))) (tb_nm (pg_name (i := 3) sc_folk_in.nd rfl (Or.inl rfl))) (es_one (es_dput (i := 1) (hu64 hr) (pv 1) (ev_var (pv 3)) (ev_bl)))))) (es_one (es_ret (ev_Ty cr_tupleD (by rfl) T.b_tuple PyProof.Rows.boot_tuple (ea_cons (ev_sortDic rfl (hu64 hr) (by rfl) T.b_sorted (pv 1)) (ea_nil))))))
theorem o_folk_in (T : Txt K mg) : DefOk P w K mg base 1 "folk_in" ["roster"] m_folk_in := (d_folk_in T).ok (fun _ _ _ _ _ _ us hl => match us, hl with | [_], _ => rfl)
def b_has_within : S := sRet (eB (on1 dAll) (aCons (eLc [2] (iSeq (eVar 1)) (bNm 2) (Ev.ret true) (eOp2 dIn (eVar 2) (eVar 0))) (aNil)))
def m_has_within : Fn := bodyF 1 b_has_within
theorem d_has_within (T : Txt K mg) : DefS P w K mg base 1 "has_within" s_has_within ["lot", "other"] m_has_within := by
  obtain ⟨f, fd, hm, Fu⟩ := T.d_has_within
  refine ⟨f, fd, fn_ok (k := 0) (m := 1) (body := b_has_within) Fu sc_has_within rfl rfl fun cdv A outer s H E hr => ?_, hm, Fu⟩
  exact es_one (es_ret (ev_B (cr_allD rfl) (by rfl) T.b_all boot_all (ea_cons (ev_lc (own := [("keeper", 2)]) rfl sc_has_within.nd (js := [2]) (blkOk_by (own := [("keeper", 2)]) (N := N_has_within) (sc := defScope s_has_within) (by decide +kernel)) (by decide) (ei_seq (ev_var (pv 1))) (fun _ _ _ _ _ => tb_nm (pg_name (i := 2) sc_has_within.nd rfl (Or.inl rfl))) (fun _ _ _ _ _ => ets_nil) (fun _ _ _ _ _ => ev_cmp (op_inDD (hu65 hr)) (by rfl) (ev_var (pv 2)) (ev_var (pv 0)))) (ea_nil))))
theorem o_has_within (T : Txt K mg) : DefOk P w K mg base 1 "has_within" ["lot", "other"] m_has_within := (d_has_within T).ok (fun _ _ _ _ _ _ us hl => match us, hl with | [_, _], _ => rfl)
def b_up_in : S := sRet (eB (on1 dAny) (aCons (eLc [2] (iSeq (eVar 0)) (bNm 2) (Ev.ret true) (eCall m_has_within (aCons (eVar 1) (aCons (eVar 2) (aNil))))) (aNil)))
def m_up_in : Fn := bodyF 1 b_up_in
theorem d_up_in (T : Txt K mg) : DefS P w K mg base 2 "up_in" s_up_in ["roster", "some"] m_up_in := by
  obtain ⟨f, fd, hm, Fu⟩ := T.d_up_in
  refine ⟨f, fd, fn_ok (k := 1) (m := 1) (body := b_up_in) Fu sc_up_in rfl rfl fun cdv A outer s H E hr => ?_, hm, Fu⟩
  exact es_one (es_ret (ev_B (cr_anyD rfl) (by rfl) T.b_any boot_any (ea_cons (ev_lc (own := [("lot", 2)]) rfl sc_up_in.nd (js := [2]) (blkOk_by (own := [("lot", 2)]) (N := N_up_in) (sc := defScope s_up_in) (by decide +kernel)) (by decide) (ei_seq (ev_var (pv 0))) (fun _ _ _ _ _ => tb_nm (pg_name (i := 2) sc_up_in.nd rfl (Or.inl rfl))) (fun _ _ _ _ _ => ets_nil) (fun _ _ _ _ _ => ev_call (o_has_within T) hr (by decide) (by rfl) takes0 (ea_cons (ev_var (pv 1)) (ea_cons (ev_var (pv 2)) (ea_nil))) (hn := al_cons (al_cons (al_nil))))) (ea_nil))))
theorem o_up_in (T : Txt K mg) : DefOk P w K mg base 2 "up_in" ["roster", "some"] m_up_in := (d_up_in T).ok (fun _ _ _ _ _ _ us hl => match us, hl with | [_, _], _ => rfl)
def b_all_sets : S := sSeq (sSet 1 (eLst (aCons (eTup (aNil)) (aNil)))) (sSeq (sFor (iSeq (eVar 0)) (bNm 2) (sSet 1 (eOp2 dAdd (eVar 1) (eLc [3] (iSeq (eVar 1)) (bNm 3) (Ev.ret true) (eOp2 dAdd (eVar 3) (eTup (aCons (eVar 2) (aNil)))))))) (sRet (eB (on1 dSorted) (aCons (eVar 1) (aNil)))))
def m_all_sets : Fn := bodyF 3 b_all_sets
theorem d_all_sets (T : Txt K mg) : DefS P w K mg base 1 "all_sets" s_all_sets ["keepers"] m_all_sets := by
  obtain ⟨f, fd, hm, Fu⟩ := T.d_all_sets
  refine ⟨f, fd, fn_ok (k := 0) (m := 3) (body := b_all_sets) Fu sc_all_sets rfl rfl fun cdv A outer s H E hr => ?_, hm, Fu⟩
  exact es_cons (es_set (i := 1) sc_all_sets.nd rfl (Or.inl rfl) (ev_lst (ea_cons (ev_tup (ea_nil)) (ea_nil)))) (es_cons (es_for (js := [2]) (passes_of rfl) rfl (ei_seq (ev_var (pv 0))) (tb_nm (pg_name (i := 2) sc_all_sets.nd rfl (Or.inr rfl))) (es_one (es_set (i := 1) sc_all_sets.nd rfl (Or.inl rfl) (ev_op op_addD (ev_var (pv 1)) (ev_lc (own := [("own", 3)]) rfl sc_all_sets.nd (js := [3]) (blkOk_by (own := [("own", 3)]) (N := N_all_sets) (sc := defScope s_all_sets) (by decide +kernel)) (by decide) (ei_seq (ev_var (pv 1))) (fun _ _ _ _ _ => tb_nm (pg_name (i := 3) sc_all_sets.nd rfl (Or.inl rfl))) (fun _ _ _ _ _ => ets_nil) (fun _ _ _ _ _ => ev_op op_addD (ev_var (pv 3)) (ev_tup (ea_cons (ev_var (pv 2)) (ea_nil))))))))) (es_one (es_ret (ev_B (cr_sortedD (hu64 hr)) (by rfl) T.b_sorted PyProof.Rows.boot_sorted (ea_cons (ev_var (pv 1)) (ea_nil))))))
theorem o_all_sets (T : Txt K mg) : DefOk P w K mg base 1 "all_sets" ["keepers"] m_all_sets := (d_all_sets T).ok (fun _ _ _ _ _ _ us hl => match us, hl with | [_], _ => rfl)
def b_spread_curve : S := sSeq (sPar 1 2 (eTup (aNil)) (eOp2 dSub (eB (on1 dLen) (aCons (eVar 0) (aNil))) (eK (.int 1)))) (sSeq (sFor (iEnm (aCons (eVar 0) (aNil))) (bTp [bNm 3, bNm 4]) (sSeq (sSet 5 (eIf (tBool (eOp2 dGt (eVar 4) (eK (.int 0)))) (eTup (aCons (eK k_WHOLE) (aNil))) (eTup (aNil)))) (sSeq (sFor (iRg gR1 (aCons (eVar 2) (aNil))) (bNm 6) (sSet 5 (eCall m_curve_product (aCons (eVar 5) (aCons (eIf (tBool (eOp2 dLt (eVar 6) (eVar 3))) (eTup (aCons (eK k_NOTHING) (aCons (eK k_WHOLE) (aNil)))) (eTup (aCons (eK k_WHOLE) (aCons (eTup (aCons (eOp1 dNeg (eK (.int 1))) (aCons (eK (.int 1)) (aNil)))) (aNil))))) (aNil)))))) (sSet 1 (eCall m_curve_sum (aCons (eVar 1) (aCons (eCall m_curve_times (aCons (eVar 5) (aCons (eTup (aCons (eVar 4) (aCons (eK (.int 1)) (aNil)))) (aNil)))) (aNil)))))))) (sRet (eVar 1)))
def m_spread_curve : Fn := bodyF 6 b_spread_curve
theorem d_spread_curve (T : Txt K mg) : DefS P w K mg base 12 "spread_curve" s_spread_curve ["counts"] m_spread_curve := by
  obtain ⟨f, fd, hm, Fu⟩ := T.d_spread_curve
  refine ⟨f, fd, fn_ok (k := 11) (m := 6) (body := b_spread_curve) Fu sc_spread_curve rfl rfl fun cdv A outer s H E hr => ?_, hm, Fu⟩
  exact es_cons (es_par (i := 1) (j := 2) rfl sc_spread_curve.nd rfl rfl (by decide) rfl rfl (ev_tup (ea_nil)) (ev_op op_subD (ev_B cr_lenD (by rfl) T.b_len PySem.boot_len (ea_cons (ev_var (pv 0)) (ea_nil))) (ev_int)) (by rfl)) (es_cons (es_for (js := [3, 4]) (passes_of rfl) rfl (ei_enum (by rfl) T.b_enumerate (ea_cons (ev_var (pv 0)) (ea_nil))) (tb_tp rfl (tbs_cons (tb_nm (pg_name (i := 3) sc_spread_curve.nd rfl (Or.inl rfl))) (tbs_cons (tb_nm (pg_name (i := 4) sc_spread_curve.nd rfl (Or.inl rfl))) (tbs_nil))) rfl) (es_cons (es_set (i := 5) sc_spread_curve.nd rfl (Or.inl rfl) (ev_if (et_cmp (op_gtD (hu64 hr)) (by rfl) (ev_var (pv 4)) (ev_int)) (ev_tup (ea_cons (ev_const (by rfl) T.k_WHOLE) (ea_nil))) (ev_tup (ea_nil)))) (es_cons (es_for (js := [6]) (passes_of rfl) rfl (ei_rng1 (by rfl) T.b_range (ea_cons (ev_var (pv 2)) (ea_nil))) (tb_nm (pg_name (i := 6) sc_spread_curve.nd rfl (Or.inl rfl))) (es_one (es_set (i := 5) sc_spread_curve.nd rfl (Or.inl rfl) (ev_call (o_curve_product T) hr (by decide) (by rfl) (takes_of rfl rfl rfl rfl) (ea_cons (ev_var (pv 5)) (ea_cons (ev_if (et_cmp (op_ltD (hu64 hr)) (by rfl) (ev_var (pv 6)) (ev_var (pv 3))) (ev_tup (ea_cons (ev_const (by rfl) T.k_NOTHING) (ea_cons (ev_const (by rfl) T.k_WHOLE) (ea_nil)))) (ev_tup (ea_cons (ev_const (by rfl) T.k_WHOLE) (ea_cons (ev_tup (ea_cons (ev_un un_negD (ev_int)) (ea_cons (ev_int) (ea_nil)))) (ea_nil))))) (ea_nil))) (hn := al_cons (al_cons (al_nil))))))) (es_one (es_set (i := 1) sc_spread_curve.nd rfl (Or.inl rfl) (ev_call (o_curve_sum T) hr (by decide) (by rfl) (takes_of rfl rfl rfl rfl) (ea_cons (ev_var (pv 1)) (ea_cons (ev_call (o_curve_times T) hr (by decide) (by rfl) (takes_of rfl rfl rfl rfl) (ea_cons (ev_var (pv 5)) (ea_cons (ev_tup (ea_cons (ev_var (pv 4)) (ea_cons (ev_int) (ea_nil)))) (ea_nil))) (hn := al_cons (al_cons (al_nil)))) (ea_nil))) (hn := al_cons (al_cons (al_nil))))))))) (es_one (es_ret (ev_var (pv 1)))))
theorem o_spread_curve (T : Txt K mg) : DefOk P w K mg base 12 "spread_curve" ["counts"] m_spread_curve := (d_spread_curve T).ok (fun _ _ _ _ _ _ us hl => match us, hl with | [_], _ => rfl)
def b_counts_by_size : S := sSeq (sSet 2 (eRepL (eLst (aCons (eK (.int 0)) (aNil))) (eOp2 dAdd (eVar 1) (eK (.int 1))))) (sSeq (sFor (iSeq (eVar 0)) (bNm 3) (sSub 2 (eB (on1 dLen) (aCons (eVar 3) (aNil))) (eOp2 dAdd (eOp2 dIx (eVar 2) (eB (on1 dLen) (aCons (eVar 3) (aNil)))) (eK (.int 1))))) (sRet (eVar 2)))
def m_counts_by_size : Fn := bodyF 2 b_counts_by_size
theorem d_counts_by_size (T : Txt K mg) : DefS P w K mg base 1 "counts_by_size" s_counts_by_size ["sets", "many"] m_counts_by_size := by
  obtain ⟨f, fd, hm, Fu⟩ := T.d_counts_by_size
  refine ⟨f, fd, fn_ok (k := 0) (m := 2) (body := b_counts_by_size) Fu sc_counts_by_size rfl rfl fun cdv A outer s H E hr => ?_, hm, Fu⟩
  exact es_cons (es_set (i := 2) sc_counts_by_size.nd rfl (Or.inl rfl) (ev_repL (ev_lst (ea_cons (ev_int) (ea_nil))) (ev_op op_addD (ev_var (pv 1)) (ev_int)))) (es_cons (es_for (js := [3]) (passes_of rfl) rfl (ei_seq (ev_var (pv 0))) (tb_nm (pg_name (i := 3) sc_counts_by_size.nd rfl (Or.inl rfl))) (es_one (es_sub (i := 2) (pv 2) (ev_B cr_lenD (by rfl) T.b_len PySem.boot_len (ea_cons (ev_var (pv 3)) (ea_nil))) (ev_op op_addD (ev_ix (fun _ _ => rfl) (ev_var (pv 2)) (ev_B cr_lenD (by rfl) T.b_len PySem.boot_len (ea_cons (ev_var (pv 3)) (ea_nil)))) (ev_int))))) (es_one (es_ret (ev_var (pv 2)))))
theorem o_counts_by_size (T : Txt K mg) : DefOk P w K mg base 1 "counts_by_size" ["sets", "many"] m_counts_by_size := (d_counts_by_size T).ok (fun _ _ _ _ _ _ us hl => match us, hl with | [_, _], _ => rfl)
def b_up_curve : S := sSeq (sSet 1 (eCall (m_tuple_of 8) (aCons (eVar 0) (aNil)))) (sSeq (sSet 2 (eCall m_folk_in (aCons (eVar 1) (aNil)))) (sRet (eCall m_spread_curve (aCons (eCall m_counts_by_size (aCons (eLc [3] (iSeq (eCall m_all_sets (aCons (eVar 2) (aNil)))) (bNm 3) (tTr (eCall m_up_in (aCons (eVar 1) (aCons (eVar 3) (aNil))))) (eVar 3)) (aCons (eB (on1 dLen) (aCons (eVar 2) (aNil))) (aNil)))) (aNil)))))
def m_up_curve : Fn := bodyF 3 b_up_curve
theorem d_up_curve (T : Txt K mg) : DefS P w K mg base 13 "up_curve" s_up_curve ["roster"] m_up_curve := by
  obtain ⟨f, fd, hm, Fu⟩ := T.d_up_curve
  refine ⟨f, fd, fn_ok (k := 12) (m := 3) (body := b_up_curve) Fu sc_up_curve rfl rfl fun cdv A outer s H E hr => ?_, hm, Fu⟩
  exact es_cons (es_set (i := 1) sc_up_curve.nd rfl (Or.inr rfl) (ev_call (o_tuple_of T 8) hr (by decide) (by rfl) (takes_of rfl rfl rfl rfl) (ea_cons (ev_var (pv 0)) (ea_nil)) (hn := al_cons (al_nil)))) (es_cons (es_set (i := 2) sc_up_curve.nd rfl (Or.inl rfl) (ev_call (o_folk_in T) hr (by decide) (by rfl) (takes_of rfl rfl rfl rfl) (ea_cons (ev_var (pv 1)) (ea_nil)) (hn := al_cons (al_nil)))) (es_one (es_ret (ev_call (o_spread_curve T) hr (by decide) (by rfl) (takes_of rfl rfl rfl rfl) (ea_cons (ev_call (o_counts_by_size T) hr (by decide) (by rfl) (takes_of rfl rfl rfl rfl) (ea_cons (ev_lc (own := [("own", 3)]) rfl sc_up_curve.nd (js := [3]) (blkOk_by (own := [("own", 3)]) (N := N_up_curve) (sc := defScope s_up_curve) (by decide +kernel)) (by decide) (ei_seq (ev_call (o_all_sets T) hr (by decide) (by rfl) (takes_of rfl rfl rfl rfl) (ea_cons (ev_var (pv 2)) (ea_nil)) (hn := al_cons (al_nil)))) (fun _ _ _ _ _ => tb_nm (pg_name (i := 3) sc_up_curve.nd rfl (Or.inl rfl))) (fun _ _ _ _ _ => ets_one (et_truth (ev_call (o_up_in T) hr (by decide) (by rfl) takes0 (ea_cons (ev_var (pv 1)) (ea_cons (ev_var (pv 3)) (ea_nil))) (hn := al_cons (al_cons (al_nil)))))) (fun _ _ _ _ _ => ev_var (pv 3))) (ea_cons (ev_B cr_lenD (by rfl) T.b_len PySem.boot_len (ea_cons (ev_var (pv 2)) (ea_nil))) (ea_nil))) (hn := al_cons (al_cons (al_nil)))) (ea_nil)) (hn := al_cons (al_nil))))))
theorem o_up_curve (T : Txt K mg) : DefOk P w K mg base 13 "up_curve" ["roster"] m_up_curve := (d_up_curve T).ok (fun _ _ _ _ _ _ us hl => match us, hl with | [_], _ => rfl)
def b_no_worse : S := sRet (eCall m_never_dips (aCons (eCall m_curve_less (aCons (eCall m_up_curve (aCons (eVar 0) (aNil))) (aCons (eCall m_up_curve (aCons (eVar 1) (aNil))) (aNil)))) (aCons (eVar 2) (aCons (eVar 3) (aNil)))))
def m_no_worse : Fn := bodyF 0 b_no_worse
theorem d_no_worse (T : Txt K mg) : DefS P w K mg base 17 "no_worse" s_no_worse ["roster", "other", "low", "high"] m_no_worse := by
  obtain ⟨f, fd, hm, Fu⟩ := T.d_no_worse
  refine ⟨f, fd, fn_ok (k := 16) (m := 0) (body := b_no_worse) Fu sc_no_worse rfl rfl fun cdv A outer s H E hr => ?_, hm, Fu⟩
  exact es_one (es_ret (ev_call (o_never_dips T) hr (by decide) (by rfl) (takes_of rfl rfl rfl rfl) (ea_cons (ev_call (o_curve_less T) hr (by decide) (by rfl) (takes_of rfl rfl rfl rfl) (ea_cons (ev_call (o_up_curve T) hr (by decide) (by rfl) (takes_of rfl rfl rfl rfl) (ea_cons (ev_var (pv 0)) (ea_nil)) (hn := al_cons (al_nil))) (ea_cons (ev_call (o_up_curve T) hr (by decide) (by rfl) (takes_of rfl rfl rfl rfl) (ea_cons (ev_var (pv 1)) (ea_nil)) (hn := al_cons (al_nil))) (ea_nil))) (hn := al_cons (al_cons (al_nil)))) (ea_cons (ev_var (pv 2)) (ea_cons (ev_var (pv 3)) (ea_nil)))) (hn := al_cons (al_cons (al_cons (al_nil))))))
theorem o_no_worse (T : Txt K mg) : DefOk P w K mg base 17 "no_worse" ["roster", "other", "low", "high"] m_no_worse := (d_no_worse T).ok (fun _ _ _ _ _ _ us hl => match us, hl with | [_, _, _, _], _ => rfl)
def b_worse_at : S := sRet (eCall m_dip (aCons (eCall m_curve_less (aCons (eCall m_up_curve (aCons (eVar 0) (aNil))) (aCons (eCall m_up_curve (aCons (eVar 1) (aNil))) (aNil)))) (aCons (eVar 2) (aCons (eVar 3) (aNil)))))
def m_worse_at : Fn := bodyF 0 b_worse_at
theorem d_worse_at (T : Txt K mg) : DefS P w K mg base 17 "worse_at" s_worse_at ["roster", "other", "low", "high"] m_worse_at := by
  obtain ⟨f, fd, hm, Fu⟩ := T.d_worse_at
  refine ⟨f, fd, fn_ok (k := 16) (m := 0) (body := b_worse_at) Fu sc_worse_at rfl rfl fun cdv A outer s H E hr => ?_, hm, Fu⟩
  exact es_one (es_ret (ev_call (o_dip T) hr (by decide) (by rfl) (takes_of rfl rfl rfl rfl) (ea_cons (ev_call (o_curve_less T) hr (by decide) (by rfl) (takes_of rfl rfl rfl rfl) (ea_cons (ev_call (o_up_curve T) hr (by decide) (by rfl) (takes_of rfl rfl rfl rfl) (ea_cons (ev_var (pv 0)) (ea_nil)) (hn := al_cons (al_nil))) (ea_cons (ev_call (o_up_curve T) hr (by decide) (by rfl) (takes_of rfl rfl rfl rfl) (ea_cons (ev_var (pv 1)) (ea_nil)) (hn := al_cons (al_nil))) (ea_nil))) (hn := al_cons (al_cons (al_nil)))) (ea_cons (ev_var (pv 2)) (ea_cons (ev_var (pv 3)) (ea_nil)))) (hn := al_cons (al_cons (al_cons (al_nil))))))
theorem o_worse_at (T : Txt K mg) : DefOk P w K mg base 17 "worse_at" ["roster", "other", "low", "high"] m_worse_at := (d_worse_at T).ok (fun _ _ _ _ _ _ us hl => match us, hl with | [_, _, _, _], _ => rfl)
def b_is_number : S := sRet (eAndV (eOp1 isIn (eVar 0)) (eNot (eOp1 isBo (eVar 0))))
def m_is_number : Fn := bodyF 0 b_is_number
theorem d_is_number (T : Txt K mg) : DefS P w K mg base 1 "is_number" s_is_number ["thing"] m_is_number := by
  obtain ⟨f, fd, hm, Fu⟩ := T.d_is_number
  refine ⟨f, fd, fn_ok (k := 0) (m := 0) (body := b_is_number) Fu sc_is_number rfl rfl fun cdv A outer s H E hr => ?_, hm, Fu⟩
  exact es_one (es_ret (ev_and (ev_isO isIn_eq (ev_isi (t := "int") (by rfl) T.b_isinstance (ev_var (pv 0)) (pty "int" (by rfl) T.b_int PyProof.Rows.boot_int))) (ev_one (ev_not (ev_isO isBo_eq (ev_isi (t := "bool") (by rfl) T.b_isinstance (ev_var (pv 0)) (pty "bool" (by rfl) T.b_bool PyProof.Rows.boot_bool)))))))
theorem o_is_number (T : Txt K mg) : DefOk P w K mg base 1 "is_number" ["thing"] m_is_number := (d_is_number T).ok (fun _ _ _ _ _ _ us hl => match us, hl with | [_], _ => rfl)
def b_is_tuple_of : S := sRet (eAndV (eOp1 isTu (eVar 0)) (eOp2 dEq (eB (on1 dLen) (aCons (eVar 0) (aNil))) (eVar 1)))
def m_is_tuple_of : Fn := bodyF 0 b_is_tuple_of
theorem d_is_tuple_of (T : Txt K mg) : DefS P w K mg base 1 "is_tuple_of" s_is_tuple_of ["thing", "many"] m_is_tuple_of := by
  obtain ⟨f, fd, hm, Fu⟩ := T.d_is_tuple_of
  refine ⟨f, fd, fn_ok (k := 0) (m := 0) (body := b_is_tuple_of) Fu sc_is_tuple_of rfl rfl fun cdv A outer s H E hr => ?_, hm, Fu⟩
  exact es_one (es_ret (ev_and (ev_isO isTu_eq (ev_isi (t := "tuple") (by rfl) T.b_isinstance (ev_var (pv 0)) (pty "tuple" (by rfl) T.b_tuple PyProof.Rows.boot_tuple))) (ev_one (ev_cmp (op_eqDD (hu64 hr)) (by rfl) (ev_B cr_lenD (by rfl) T.b_len PySem.boot_len (ea_cons (ev_var (pv 0)) (ea_nil))) (ev_var (pv 1))))))
theorem o_is_tuple_of (T : Txt K mg) : DefOk P w K mg base 1 "is_tuple_of" ["thing", "many"] m_is_tuple_of := (d_is_tuple_of T).ok (fun _ _ _ _ _ _ us hl => match us, hl with | [_, _], _ => rfl)
def b_is_fraction : S := sSeq (sIf (tOrM (tNotM (tTr (eCall m_is_tuple_of (aCons (eVar 0) (aCons (eK (.int 2)) (aNil)))))) (tOrM (tNotM (tTr (eCall m_is_number (aCons (eOp2 dIx (eVar 0) (eK (.int 0))) (aNil))))) (tNotM (tTr (eCall m_is_number (aCons (eOp2 dIx (eVar 0) (eK (.int 1))) (aNil))))))) (sRet (eK (.bool false))) (sNx)) (sRet (eAndV (eOp2 dGt (eOp2 dIx (eVar 0) (eK (.int 1))) (eK (.int 0))) (eOp2 dEq (eB (on2 dGcd) (aCons (eOp2 dIx (eVar 0) (eK (.int 0))) (aCons (eOp2 dIx (eVar 0) (eK (.int 1))) (aNil)))) (eK (.int 1)))))
def m_is_fraction : Fn := bodyF 0 b_is_fraction
theorem d_is_fraction (T : Txt K mg) : DefS P w K mg base 2 "is_fraction" s_is_fraction ["thing"] m_is_fraction := by
  obtain ⟨f, fd, hm, Fu⟩ := T.d_is_fraction
  refine ⟨f, fd, fn_ok (k := 1) (m := 0) (body := b_is_fraction) Fu sc_is_fraction rfl rfl fun cdv A outer s H E hr => ?_, hm, Fu⟩
  exact es_cons (es_if (PW.pt (ew_or (et_not (et_truth (ev_call (o_is_tuple_of T) hr (by decide) (by rfl) (takes_of rfl rfl rfl rfl) (ea_cons (ev_var (pv 0)) (ea_cons (ev_int) (ea_nil))) (hn := al_cons (al_cons (al_nil)))))) (ew_or (et_not (et_truth (ev_call (o_is_number T) hr (by decide) (by rfl) (takes_of rfl rfl rfl rfl) (ea_cons (ev_ix (fun _ _ => rfl) (ev_var (pv 0)) (ev_int)) (ea_nil)) (hn := al_cons (al_nil))))) (ew_or1 (et_not (et_truth (ev_call (o_is_number T) hr (by decide) (by rfl) (takes_of rfl rfl rfl rfl) (ea_cons (ev_ix (fun _ _ => rfl) (ev_var (pv 0)) (ev_int)) (ea_nil)) (hn := al_cons (al_nil))))))))) (es_one (es_ret (ev_bl))) (es_nil)) (es_one (es_ret (ev_and (ev_cmp (op_gtD (hu64 hr)) (by rfl) (ev_ix (fun _ _ => rfl) (ev_var (pv 0)) (ev_int)) (ev_int)) (ev_one (ev_cmp (op_eqDD (hu64 hr)) (by rfl) (ev_gcd (by rfl) T.g_gcd (ea_cons (ev_ix (fun _ _ => rfl) (ev_var (pv 0)) (ev_int)) (ea_cons (ev_ix (fun _ _ => rfl) (ev_var (pv 0)) (ev_int)) (ea_nil)))) (ev_int))))))
theorem o_is_fraction (T : Txt K mg) : DefOk P w K mg base 2 "is_fraction" ["thing"] m_is_fraction := (d_is_fraction T).ok (fun _ _ _ _ _ _ us hl => match us, hl with | [_], _ => rfl)
def b_is_worse_at : S := sSeq (sTgt (bTp [bNm 5, bNm 6]) (eCall m_sure_stretch (aCons (eVar 2) (aCons (eVar 3) (aNil))))) (sSeq (sIf (tOrM (tNotM (tTr (eCall m_is_fraction (aCons (eVar 4) (aNil))))) (tOrM (tTr (eCall m_less (aCons (eVar 4) (aCons (eVar 5) (aNil))))) (tTr (eCall m_less (aCons (eVar 6) (aCons (eVar 4) (aNil))))))) (sRet (eK (.bool false))) (sNx)) (sRet (eOp2 dLt (eOp2 dIx (eCall m_curve_in (aCons (eCall m_curve_less (aCons (eCall m_up_curve (aCons (eVar 0) (aNil))) (aCons (eCall m_up_curve (aCons (eVar 1) (aNil))) (aNil)))) (aCons (eVar 4) (aNil)))) (eK (.int 0))) (eK (.int 0)))))
def m_is_worse_at : Fn := bodyF 2 b_is_worse_at
theorem d_is_worse_at (T : Txt K mg) : DefS P w K mg base 14 "is_worse_at" s_is_worse_at ["roster", "other", "low", "high", "thing"] m_is_worse_at := by
  obtain ⟨f, fd, hm, Fu⟩ := T.d_is_worse_at
  refine ⟨f, fd, fn_ok (k := 13) (m := 2) (body := b_is_worse_at) Fu sc_is_worse_at rfl rfl fun cdv A outer s H E hr => ?_, hm, Fu⟩
  exact es_cons (es_tgt (js := [5, 6]) (ev_call (o_sure_stretch T) hr (by decide) (by rfl) (takes_of rfl rfl rfl rfl) (ea_cons (ev_var (pv 2)) (ea_cons (ev_var (pv 3)) (ea_nil))) (hn := al_cons (al_cons (al_nil)))) (tb_tp rfl (tbs_cons (tb_nm (pg_name (i := 5) sc_is_worse_at.nd rfl (Or.inl rfl))) (tbs_cons (tb_nm (pg_name (i := 6) sc_is_worse_at.nd rfl (Or.inl rfl))) (tbs_nil))) rfl)) (es_cons (es_if (PW.pt (ew_or (et_not (et_truth (ev_call (o_is_fraction T) hr (by decide) (by rfl) (takes_of rfl rfl rfl rfl) (ea_cons (ev_var (pv 4)) (ea_nil)) (hn := al_cons (al_nil))))) (ew_or (et_truth (ev_call (o_less T) hr (by decide) (by rfl) (takes_of rfl rfl rfl rfl) (ea_cons (ev_var (pv 4)) (ea_cons (ev_var (pv 5)) (ea_nil))) (hn := al_cons (al_cons (al_nil))))) (ew_or1 (et_truth (ev_call (o_less T) hr (by decide) (by rfl) (takes_of rfl rfl rfl rfl) (ea_cons (ev_var (pv 6)) (ea_cons (ev_var (pv 4)) (ea_nil))) (hn := al_cons (al_cons (al_nil))))))))) (es_one (es_ret (ev_bl))) (es_nil)) (es_one (es_ret (ev_cmp (op_ltD (hu64 hr)) (by rfl) (ev_ix (fun _ _ => rfl) (ev_call (o_curve_in T) hr (by decide) (by rfl) (takes_of rfl rfl rfl rfl) (ea_cons (ev_call (o_curve_less T) hr (by decide) (by rfl) (takes_of rfl rfl rfl rfl) (ea_cons (ev_call (o_up_curve T) hr (by decide) (by rfl) (takes_of rfl rfl rfl rfl) (ea_cons (ev_var (pv 0)) (ea_nil)) (hn := al_cons (al_nil))) (ea_cons (ev_call (o_up_curve T) hr (by decide) (by rfl) (takes_of rfl rfl rfl rfl) (ea_cons (ev_var (pv 1)) (ea_nil)) (hn := al_cons (al_nil))) (ea_nil))) (hn := al_cons (al_cons (al_nil)))) (ea_cons (ev_var (pv 4)) (ea_nil))) (hn := al_cons (al_cons (al_nil)))) (ev_int)) (ev_int)))))
theorem o_is_worse_at (T : Txt K mg) : DefOk P w K mg base 14 "is_worse_at" ["roster", "other", "low", "high", "thing"] m_is_worse_at := (d_is_worse_at T).ok (fun _ _ _ _ _ _ us hl => match us, hl with | [_, _, _, _, _], _ => rfl)
def b_even_odds : S := sSeq (sExpr (eCall m_sure_stretch (aCons (eVar 2) (aCons (eVar 3) (aNil))))) (sSeq (sSet 4 (eCall m_curve_less (aCons (eCall m_up_curve (aCons (eVar 0) (aNil))) (aCons (eCall m_up_curve (aCons (eVar 1) (aNil))) (aNil))))) (sRet (eIf (tBool (eOp2 dEq (eVar 4) (eTup (aNil)))) (eK .none) (eCall m_zeros_along (aCons (eVar 4) (aCons (eVar 2) (aCons (eVar 3) (aNil))))))))
def m_even_odds : Fn := bodyF 1 b_even_odds
theorem d_even_odds (T : Txt K mg) : DefS P w K mg base 15 "even_odds" s_even_odds ["roster", "other", "low", "high"] m_even_odds := by
  obtain ⟨f, fd, hm, Fu⟩ := T.d_even_odds
  refine ⟨f, fd, fn_ok (k := 14) (m := 1) (body := b_even_odds) Fu sc_even_odds rfl rfl fun cdv A outer s H E hr => ?_, hm, Fu⟩
  exact es_cons (es_expr (ev_call (o_sure_stretch T) hr (by decide) (by rfl) (takes_of rfl rfl rfl rfl) (ea_cons (ev_var (pv 2)) (ea_cons (ev_var (pv 3)) (ea_nil))) (hn := al_cons (al_cons (al_nil))))) (es_cons (es_set (i := 4) sc_even_odds.nd rfl (Or.inl rfl) (ev_call (o_curve_less T) hr (by decide) (by rfl) (takes_of rfl rfl rfl rfl) (ea_cons (ev_call (o_up_curve T) hr (by decide) (by rfl) (takes_of rfl rfl rfl rfl) (ea_cons (ev_var (pv 0)) (ea_nil)) (hn := al_cons (al_nil))) (ea_cons (ev_call (o_up_curve T) hr (by decide) (by rfl) (takes_of rfl rfl rfl rfl) (ea_cons (ev_var (pv 1)) (ea_nil)) (hn := al_cons (al_nil))) (ea_nil))) (hn := al_cons (al_cons (al_nil))))) (es_one (es_ret (ev_if (et_cmp (op_eqDD (hu64 hr)) (by rfl) (ev_var (pv 4)) (ev_tup (ea_nil))) (ev_non) (ev_call (o_zeros_along T) hr (by decide) (by rfl) (takes_of rfl rfl rfl rfl) (ea_cons (ev_var (pv 4)) (ea_cons (ev_var (pv 2)) (ea_cons (ev_var (pv 3)) (ea_nil)))) (hn := al_cons (al_cons (al_cons (al_nil)))))))))
theorem o_even_odds (T : Txt K mg) : DefOk P w K mg base 15 "even_odds" ["roster", "other", "low", "high"] m_even_odds := (d_even_odds T).ok (fun _ _ _ _ _ _ us hl => match us, hl with | [_, _, _, _], _ => rfl)
def b_least_in : S := sSeq (sSet 1 (eSortSet (eVar 0))) (sRet (eB (on1 dTuple) (aCons (eLc [2] (iSeq (eVar 1)) (bNm 2) (tNotM (tTr (eB (on1 dAny) (aCons (eLc [3] (iSeq (eVar 1)) (bNm 3) (Ev.ret true) (eAndV (eOp2 dNe (eVar 3) (eVar 2)) (eCall m_has_within (aCons (eVar 2) (aCons (eVar 3) (aNil)))))) (aNil))))) (eVar 2)) (aNil))))
def m_least_in : Fn := bodyF 3 b_least_in
theorem d_least_in (T : Txt K mg) : DefS P w K mg base 2 "least_in" s_least_in ["lots"] m_least_in := by
  obtain ⟨f, fd, hm, Fu⟩ := T.d_least_in
  refine ⟨f, fd, fn_ok (k := 1) (m := 3) (body := b_least_in) Fu sc_least_in rfl rfl fun cdv A outer s H E hr => ?_, hm, Fu⟩
  exact es_cons (es_set (i := 1) sc_least_in.nd rfl (Or.inr rfl) (ev_sortSet rfl (hu64 hr) (by rfl) T.b_sorted (by rfl) T.b_set (ev_var (pv 0)))) (es_one (es_ret (ev_Ty cr_tupleD (by rfl) T.b_tuple PyProof.Rows.boot_tuple (ea_cons (ev_lc (own := [("lot", 2)]) rfl sc_least_in.nd (js := [2]) (blkOk_by (own := [("lot", 2)]) (N := N_least_in) (sc := defScope s_least_in) (by decide +kernel)) (by decide) (ei_seq (ev_var (pv 1))) (fun _ _ _ _ _ => tb_nm (pg_name (i := 2) sc_least_in.nd rfl (Or.inr rfl))) (fun _ _ _ _ _ => ets_one (et_not (et_truth (ev_B (cr_anyD rfl) (by rfl) T.b_any boot_any (ea_cons (ev_lc (own := [("own", 3)]) rfl sc_least_in.nd (js := [3]) (blkOk_by (own := [("own", 3)]) (N := N_least_in) (sc := relS _ (defScope s_least_in)) (by decide +kernel)) (by decide) (ei_seq (ev_var (pv 1))) (fun _ _ _ _ _ => tb_nm (pg_name (i := 3) sc_least_in.nd rfl (Or.inl rfl))) (fun _ _ _ _ _ => ets_nil) (fun _ _ _ _ _ => ev_and (ev_cmp (op_neDD (hu64 hr)) (by rfl) (ev_var (pv 3)) (ev_var (pv 2))) (ev_one (ev_call (o_has_within T) hr (by decide) (by rfl) takes0 (ea_cons (ev_var (pv 2)) (ea_cons (ev_var (pv 3)) (ea_nil))) (hn := al_cons (al_cons (al_nil))))))) (ea_nil)))))) (fun _ _ _ _ _ => ev_var (pv 2))) (ea_nil)))))
theorem o_least_in (T : Txt K mg) : DefOk P w K mg base 2 "least_in" ["lots"] m_least_in := (d_least_in T).ok (fun _ _ _ _ _ _ us hl => match us, hl with | [_], _ => rfl)
def b_sure_likely : S := sSeq (sSet 2 (eCall (m_tuple_of 8) (aCons (eVar 1) (aNil)))) (sSeq (sIf (tOrM (tBool (eOp2 dEq (eVar 2) (eTup (aNil)))) (tTr (eB (on1 dAny) (aCons (eLc [3] (iSeq (eVar 2)) (bNm 3) (Ev.ret true) (eCall m_less (aCons (eCall (m_tuple_of 8) (aCons (eOp2 dIx (eVar 0) (eVar 3)) (aNil))) (aCons (eK k_HALF) (aNil))))) (aNil))))) (sRaise "Unfit") (sNx)) (sRet (eVar 2)))
def m_sure_likely : Fn := bodyF 2 b_sure_likely
theorem d_sure_likely (T : Txt K mg) : DefS P w K mg base 10 "sure_likely" s_sure_likely ["chances", "keepers"] m_sure_likely := by
  obtain ⟨f, fd, hm, Fu⟩ := T.d_sure_likely
  refine ⟨f, fd, fn_ok (k := 9) (m := 2) (body := b_sure_likely) Fu sc_sure_likely rfl rfl fun cdv A outer s H E hr => ?_, hm, Fu⟩
  exact es_cons (es_set (i := 2) sc_sure_likely.nd rfl (Or.inl rfl) (ev_call (o_tuple_of T 8) hr (by decide) (by rfl) (takes_of rfl rfl rfl rfl) (ea_cons (ev_var (pv 1)) (ea_nil)) (hn := al_cons (al_nil)))) (es_cons (es_if (PW.pt (ew_or (et_cmp (op_eqDD (hu64 hr)) (by rfl) (ev_var (pv 2)) (ev_tup (ea_nil))) (ew_or1 (et_truth (ev_B (cr_anyD rfl) (by rfl) T.b_any boot_any (ea_cons (ev_lc (own := [("keeper", 3)]) rfl sc_sure_likely.nd (js := [3]) (blkOk_by (own := [("keeper", 3)]) (N := N_sure_likely) (sc := defScope s_sure_likely) (by decide +kernel)) (by decide) (ei_seq (ev_var (pv 2))) (fun _ _ _ _ _ => tb_nm (pg_name (i := 3) sc_sure_likely.nd rfl (Or.inl rfl))) (fun _ _ _ _ _ => ets_nil) (fun _ _ _ _ _ => ev_call (o_less T) hr (by decide) (by rfl) takes0 (ea_cons (ev_call (o_tuple_of T 8) hr (by decide) (by rfl) takes0 (ea_cons (ev_ix (fun _ _ => rfl) (ev_var (pv 0)) (ev_var (pv 3))) (ea_nil)) (hn := al_cons (al_nil))) (ea_cons (ev_const (by rfl) T.k_HALF) (ea_nil))) (hn := al_cons (al_cons (al_nil))))) (ea_nil))))))) (es_one (es_raise T.e_Unfit.choose_spec rfl (takes_of rfl rfl rfl rfl) (by rfl))) (es_nil)) (es_one (es_ret (ev_var (pv 2)))))
theorem o_sure_likely (T : Txt K mg) : DefOk P w K mg base 10 "sure_likely" ["chances", "keepers"] m_sure_likely := (d_sure_likely T).ok (fun _ _ _ _ _ _ us hl => match us, hl with | [_, _], _ => rfl)
def b_chance_just : S := sSeq (sSet 3 (eK k_WHOLE)) (sSeq (sFor (iSeq (eVar 0)) (bNm 4) (sSeq (sSet 5 (eCall (m_tuple_of 8) (aCons (eOp2 dIx (eVar 2) (eVar 4)) (aNil)))) (sSet 3 (eCall m_times (aCons (eVar 3) (aCons (eIf (tBool (eOp2 dIn (eVar 4) (eVar 1))) (eVar 5) (eCall m_minus (aCons (eK k_WHOLE) (aCons (eVar 5) (aNil))))) (aNil))))))) (sRet (eVar 3)))
def m_chance_just : Fn := bodyF 3 b_chance_just
theorem d_chance_just (T : Txt K mg) : DefS P w K mg base 10 "chance_just" s_chance_just ["folk", "some", "chances"] m_chance_just := by
  obtain ⟨f, fd, hm, Fu⟩ := T.d_chance_just
  refine ⟨f, fd, fn_ok (k := 9) (m := 3) (body := b_chance_just) Fu sc_chance_just rfl rfl fun cdv A outer s H E hr => ?_, hm, Fu⟩
  exact es_cons (es_set (i := 3) sc_chance_just.nd rfl (Or.inl rfl) (ev_const (by rfl) T.k_WHOLE)) (es_cons (es_for (js := [4]) (passes_of rfl) rfl (ei_seq (ev_var (pv 0))) (tb_nm (pg_name (i := 4) sc_chance_just.nd rfl (Or.inl rfl))) (es_cons (es_set (i := 5) sc_chance_just.nd rfl (Or.inl rfl) (ev_call (o_tuple_of T 8) hr (by decide) (by rfl) (takes_of rfl rfl rfl rfl) (ea_cons (ev_ix (fun _ _ => rfl) (ev_var (pv 2)) (ev_var (pv 4))) (ea_nil)) (hn := al_cons (al_nil)))) (es_one (es_set (i := 3) sc_chance_just.nd rfl (Or.inl rfl) (ev_call (o_times T) hr (by decide) (by rfl) (takes_of rfl rfl rfl rfl) (ea_cons (ev_var (pv 3)) (ea_cons (ev_if (et_cmp (op_inDD (hu65 hr)) (by rfl) (ev_var (pv 4)) (ev_var (pv 1))) (ev_var (pv 5)) (ev_call (o_minus T) hr (by decide) (by rfl) (takes_of rfl rfl rfl rfl) (ea_cons (ev_const (by rfl) T.k_WHOLE) (ea_cons (ev_var (pv 5)) (ea_nil))) (hn := al_cons (al_cons (al_nil))))) (ea_nil))) (hn := al_cons (al_cons (al_nil)))))))) (es_one (es_ret (ev_var (pv 3)))))
theorem o_chance_just (T : Txt K mg) : DefOk P w K mg base 10 "chance_just" ["folk", "some", "chances"] m_chance_just := (d_chance_just T).ok (fun _ _ _ _ _ _ us hl => match us, hl with | [_, _, _], _ => rfl)
def b_likelier_sets : S := sSeq (sSet 2 (eLst (aNil))) (sSeq (sFor (iSeq (eCall m_all_sets (aCons (eVar 1) (aNil)))) (bNm 3) (sSeq (sSet 4 (eB (on1 dTuple) (aCons (eLc [7] (iSeq (eVar 1)) (bNm 7) (tBool (eOp2 dNotIn (eVar 7) (eVar 3))) (eVar 7)) (aNil)))) (sSeq (sPar 5 6 (eCall m_chance_just (aCons (eVar 1) (aCons (eVar 3) (aCons (eVar 0) (aNil))))) (eCall m_chance_just (aCons (eVar 1) (aCons (eVar 4) (aCons (eVar 0) (aNil)))))) (sIf (tOrM (tTr (eCall m_less (aCons (eVar 6) (aCons (eVar 5) (aNil))))) (tAndM (tBool (eOp2 dEq (eVar 5) (eVar 6))) (tBool (eOp2 dIn (eOp2 dIx (eVar 1) (eK (.int 0))) (eVar 3))))) (sExpr (eMt mAppend 2 (aCons (eVar 3) (aNil)))) (sNx))))) (sRet (eVar 2)))
def m_likelier_sets : Fn := bodyF 6 b_likelier_sets
theorem d_likelier_sets (T : Txt K mg) : DefS P w K mg base 11 "likelier_sets" s_likelier_sets ["chances", "some"] m_likelier_sets := by
  obtain ⟨f, fd, hm, Fu⟩ := T.d_likelier_sets
  refine ⟨f, fd, fn_ok (k := 10) (m := 6) (body := b_likelier_sets) Fu sc_likelier_sets rfl rfl fun cdv A outer s H E hr => ?_, hm, Fu⟩
  exact es_cons (es_set (i := 2) sc_likelier_sets.nd rfl (Or.inl rfl) (ev_lst (ea_nil))) (es_cons (es_for (js := [3]) (passes_of rfl) rfl (ei_seq (ev_call (o_all_sets T) hr (by decide) (by rfl) (takes_of rfl rfl rfl rfl) (ea_cons (ev_var (pv 1)) (ea_nil)) (hn := al_cons (al_nil)))) (tb_nm (pg_name (i := 3) sc_likelier_sets.nd rfl (Or.inr rfl))) (es_cons (es_set (i := 4) sc_likelier_sets.nd rfl (Or.inl rfl) (ev_Ty cr_tupleD (by rfl) T.b_tuple PyProof.Rows.boot_tuple (ea_cons (ev_lc (own := [("keeper", 7)]) rfl sc_likelier_sets.nd (js := [7]) (blkOk_by (own := [("keeper", 7)]) (N := N_likelier_sets) (sc := defScope s_likelier_sets) (by decide +kernel)) (by decide) (ei_seq (ev_var (pv 1))) (fun _ _ _ _ _ => tb_nm (pg_name (i := 7) sc_likelier_sets.nd rfl (Or.inl rfl))) (fun _ _ _ _ _ => ets_one (et_cmp (op_notInDD (hu65 hr)) (by rfl) (ev_var (pv 7)) (ev_var (pv 3)))) (fun _ _ _ _ _ => ev_var (pv 7))) (ea_nil)))) (es_cons (es_par (i := 5) (j := 6) rfl sc_likelier_sets.nd rfl rfl (by decide) rfl rfl (ev_call (o_chance_just T) hr (by decide) (by rfl) (takes_of rfl rfl rfl rfl) (ea_cons (ev_var (pv 1)) (ea_cons (ev_var (pv 3)) (ea_cons (ev_var (pv 0)) (ea_nil)))) (hn := al_cons (al_cons (al_cons (al_nil))))) (ev_call (o_chance_just T) hr (by decide) (by rfl) (takes_of rfl rfl rfl rfl) (ea_cons (ev_var (pv 1)) (ea_cons (ev_var (pv 4)) (ea_cons (ev_var (pv 0)) (ea_nil)))) (hn := al_cons (al_cons (al_cons (al_nil))))) (by rfl)) (es_one (es_if (PW.pt (ew_or (et_truth (ev_call (o_less T) hr (by decide) (by rfl) (takes_of rfl rfl rfl rfl) (ea_cons (ev_var (pv 6)) (ea_cons (ev_var (pv 5)) (ea_nil))) (hn := al_cons (al_cons (al_nil))))) (ew_or1 (PW.pt (ew_and (et_cmp (op_eqDD (hu64 hr)) (by rfl) (ev_var (pv 5)) (ev_var (pv 6))) (ew_and1 (et_cmp (op_inDD (hu65 hr)) (by rfl) (ev_ix (fun _ _ => rfl) (ev_var (pv 1)) (ev_int)) (ev_var (pv 3))))))))) (es_one (es_expr (ev_append (pv 2) (ea_cons (ev_var (pv 3)) (ea_nil))))) (es_nil)))))) (es_one (es_ret (ev_var (pv 2)))))
theorem o_likelier_sets (T : Txt K mg) : DefOk P w K mg base 11 "likelier_sets" ["chances", "some"] m_likelier_sets := (d_likelier_sets T).ok (fun _ _ _ _ _ _ us hl => match us, hl with | [_, _], _ => rfl)
def b_likelier_roster : S := sRet (eCall m_least_in (aCons (eCall m_likelier_sets (aCons (eVar 0) (aCons (eCall m_sure_likely (aCons (eVar 0) (aCons (eVar 1) (aNil)))) (aNil)))) (aNil)))
def m_likelier_roster : Fn := bodyF 0 b_likelier_roster
theorem d_likelier_roster (T : Txt K mg) : DefS P w K mg base 12 "likelier_roster" s_likelier_roster ["chances", "keepers"] m_likelier_roster := by
  obtain ⟨f, fd, hm, Fu⟩ := T.d_likelier_roster
  refine ⟨f, fd, fn_ok (k := 11) (m := 0) (body := b_likelier_roster) Fu sc_likelier_roster rfl rfl fun cdv A outer s H E hr => ?_, hm, Fu⟩
  exact es_one (es_ret (ev_call (o_least_in T) hr (by decide) (by rfl) (takes_of rfl rfl rfl rfl) (ea_cons (ev_call (o_likelier_sets T) hr (by decide) (by rfl) (takes_of rfl rfl rfl rfl) (ea_cons (ev_var (pv 0)) (ea_cons (ev_call (o_sure_likely T) hr (by decide) (by rfl) (takes_of rfl rfl rfl rfl) (ea_cons (ev_var (pv 0)) (ea_cons (ev_var (pv 1)) (ea_nil))) (hn := al_cons (al_cons (al_nil)))) (ea_nil))) (hn := al_cons (al_cons (al_nil)))) (ea_nil)) (hn := al_cons (al_nil))))
theorem o_likelier_roster (T : Txt K mg) : DefOk P w K mg base 12 "likelier_roster" ["chances", "keepers"] m_likelier_roster := (d_likelier_roster T).ok (fun _ _ _ _ _ _ us hl => match us, hl with | [_, _], _ => rfl)
def b_chance_of_sets : S := sSeq (sSet 3 (eK k_NOTHING)) (sSeq (sFor (iSeq (eVar 1)) (bNm 4) (sSet 3 (eCall m_plus (aCons (eVar 3) (aCons (eCall m_chance_just (aCons (eVar 0) (aCons (eVar 4) (aCons (eVar 2) (aNil))))) (aNil)))))) (sRet (eVar 3)))
def m_chance_of_sets : Fn := bodyF 2 b_chance_of_sets
theorem d_chance_of_sets (T : Txt K mg) : DefS P w K mg base 11 "chance_of_sets" s_chance_of_sets ["folk", "sets", "chances"] m_chance_of_sets := by
  obtain ⟨f, fd, hm, Fu⟩ := T.d_chance_of_sets
  refine ⟨f, fd, fn_ok (k := 10) (m := 2) (body := b_chance_of_sets) Fu sc_chance_of_sets rfl rfl fun cdv A outer s H E hr => ?_, hm, Fu⟩
  exact es_cons (es_set (i := 3) sc_chance_of_sets.nd rfl (Or.inl rfl) (ev_const (by rfl) T.k_NOTHING)) (es_cons (es_for (js := [4]) (passes_of rfl) rfl (ei_seq (ev_var (pv 1))) (tb_nm (pg_name (i := 4) sc_chance_of_sets.nd rfl (Or.inl rfl))) (es_one (es_set (i := 3) sc_chance_of_sets.nd rfl (Or.inl rfl) (ev_call (o_plus T) hr (by decide) (by rfl) (takes_of rfl rfl rfl rfl) (ea_cons (ev_var (pv 3)) (ea_cons (ev_call (o_chance_just T) hr (by decide) (by rfl) (takes_of rfl rfl rfl rfl) (ea_cons (ev_var (pv 0)) (ea_cons (ev_var (pv 4)) (ea_cons (ev_var (pv 2)) (ea_nil)))) (hn := al_cons (al_cons (al_cons (al_nil))))) (ea_nil))) (hn := al_cons (al_cons (al_nil))))))) (es_one (es_ret (ev_var (pv 3)))))
theorem o_chance_of_sets (T : Txt K mg) : DefOk P w K mg base 11 "chance_of_sets" ["folk", "sets", "chances"] m_chance_of_sets := (d_chance_of_sets T).ok (fun _ _ _ _ _ _ us hl => match us, hl with | [_, _, _], _ => rfl)
def b_likelier_chance : S := sSeq (sSet 2 (eCall m_sure_likely (aCons (eVar 0) (aCons (eVar 1) (aNil))))) (sRet (eCall m_chance_of_sets (aCons (eVar 2) (aCons (eCall m_likelier_sets (aCons (eVar 0) (aCons (eVar 2) (aNil)))) (aCons (eVar 0) (aNil))))))
def m_likelier_chance : Fn := bodyF 1 b_likelier_chance
theorem d_likelier_chance (T : Txt K mg) : DefS P w K mg base 12 "likelier_chance" s_likelier_chance ["chances", "keepers"] m_likelier_chance := by
  obtain ⟨f, fd, hm, Fu⟩ := T.d_likelier_chance
  refine ⟨f, fd, fn_ok (k := 11) (m := 1) (body := b_likelier_chance) Fu sc_likelier_chance rfl rfl fun cdv A outer s H E hr => ?_, hm, Fu⟩
  exact es_cons (es_set (i := 2) sc_likelier_chance.nd rfl (Or.inl rfl) (ev_call (o_sure_likely T) hr (by decide) (by rfl) (takes_of rfl rfl rfl rfl) (ea_cons (ev_var (pv 0)) (ea_cons (ev_var (pv 1)) (ea_nil))) (hn := al_cons (al_cons (al_nil))))) (es_one (es_ret (ev_call (o_chance_of_sets T) hr (by decide) (by rfl) (takes_of rfl rfl rfl rfl) (ea_cons (ev_var (pv 2)) (ea_cons (ev_call (o_likelier_sets T) hr (by decide) (by rfl) (takes_of rfl rfl rfl rfl) (ea_cons (ev_var (pv 0)) (ea_cons (ev_var (pv 2)) (ea_nil))) (hn := al_cons (al_cons (al_nil)))) (ea_cons (ev_var (pv 0)) (ea_nil)))) (hn := al_cons (al_cons (al_cons (al_nil)))))))
theorem o_likelier_chance (T : Txt K mg) : DefOk P w K mg base 12 "likelier_chance" ["chances", "keepers"] m_likelier_chance := (d_likelier_chance T).ok (fun _ _ _ _ _ _ us hl => match us, hl with | [_, _], _ => rfl)
def b_first_apart_pair : S := sSeq (sFor (iSeq (eCall (m_tuple_of 8) (aCons (eVar 0) (aNil)))) (bNm 2) (sFor (iSeq (eCall (m_tuple_of 8) (aCons (eVar 1) (aNil)))) (bNm 3) (sIf (tNotM (tTr (eB (on1 dAny) (aCons (eLc [4] (iSeq (eVar 2)) (bNm 4) (Ev.ret true) (eOp2 dIn (eVar 4) (eVar 3))) (aNil))))) (sRet (eTup (aCons (eVar 2) (aCons (eVar 3) (aNil))))) (sNx)))) (sRet (eK .none))
def m_first_apart_pair : Fn := bodyF 3 b_first_apart_pair
theorem d_first_apart_pair (T : Txt K mg) : DefS P w K mg base 10 "first_apart_pair" s_first_apart_pair ["roster", "other"] m_first_apart_pair := by
  obtain ⟨f, fd, hm, Fu⟩ := T.d_first_apart_pair
  refine ⟨f, fd, fn_ok (k := 9) (m := 3) (body := b_first_apart_pair) Fu sc_first_apart_pair rfl rfl fun cdv A outer s H E hr => ?_, hm, Fu⟩
  exact es_cons (es_for (js := [2]) (passes_of rfl) rfl (ei_seq (ev_call (o_tuple_of T 8) hr (by decide) (by rfl) (takes_of rfl rfl rfl rfl) (ea_cons (ev_var (pv 0)) (ea_nil)) (hn := al_cons (al_nil)))) (tb_nm (pg_name (i := 2) sc_first_apart_pair.nd rfl (Or.inl rfl))) (es_one (es_for (js := [3]) (passes_of rfl) rfl (ei_seq (ev_call (o_tuple_of T 8) hr (by decide) (by rfl) (takes_of rfl rfl rfl rfl) (ea_cons (ev_var (pv 1)) (ea_nil)) (hn := al_cons (al_nil)))) (tb_nm (pg_name (i := 3) sc_first_apart_pair.nd rfl (Or.inr rfl))) (es_one (es_if (et_not (et_truth (ev_B (cr_anyD rfl) (by rfl) T.b_any boot_any (ea_cons (ev_lc (own := [("keeper", 4)]) rfl sc_first_apart_pair.nd (js := [4]) (blkOk_by (own := [("keeper", 4)]) (N := N_first_apart_pair) (sc := defScope s_first_apart_pair) (by decide +kernel)) (by decide) (ei_seq (ev_var (pv 2))) (fun _ _ _ _ _ => tb_nm (pg_name (i := 4) sc_first_apart_pair.nd rfl (Or.inl rfl))) (fun _ _ _ _ _ => ets_nil) (fun _ _ _ _ _ => ev_cmp (op_inDD (hu65 hr)) (by rfl) (ev_var (pv 4)) (ev_var (pv 3)))) (ea_nil))))) (es_one (es_ret (ev_tup (ea_cons (ev_var (pv 2)) (ea_cons (ev_var (pv 3)) (ea_nil)))))) (es_nil)))))) (es_one (es_ret (ev_non)))
theorem o_first_apart_pair (T : Txt K mg) : DefOk P w K mg base 10 "first_apart_pair" ["roster", "other"] m_first_apart_pair := (d_first_apart_pair T).ok (fun _ _ _ _ _ _ us hl => match us, hl with | [_, _], _ => rfl)
def b_meet_each : S := sRet (eOp2 dIs (eCall m_first_apart_pair (aCons (eVar 0) (aCons (eVar 1) (aNil)))) (eK .none))
def m_meet_each : Fn := bodyF 0 b_meet_each
theorem d_meet_each (T : Txt K mg) : DefS P w K mg base 11 "meet_each" s_meet_each ["roster", "other"] m_meet_each := by
  obtain ⟨f, fd, hm, Fu⟩ := T.d_meet_each
  refine ⟨f, fd, fn_ok (k := 10) (m := 0) (body := b_meet_each) Fu sc_meet_each rfl rfl fun cdv A outer s H E hr => ?_, hm, Fu⟩
  exact es_one (es_ret (ev_cmp op_isD (by rfl) (ev_call (o_first_apart_pair T) hr (by decide) (by rfl) (takes_of rfl rfl rfl rfl) (ea_cons (ev_var (pv 0)) (ea_cons (ev_var (pv 1)) (ea_nil))) (hn := al_cons (al_cons (al_nil)))) (ev_non)))
theorem o_meet_each (T : Txt K mg) : DefOk P w K mg base 11 "meet_each" ["roster", "other"] m_meet_each := (d_meet_each T).ok (fun _ _ _ _ _ _ us hl => match us, hl with | [_, _], _ => rfl)
def b_meets_itself : S := sRet (eCall m_meet_each (aCons (eVar 0) (aCons (eVar 0) (aNil))))
def m_meets_itself : Fn := bodyF 0 b_meets_itself
theorem d_meets_itself (T : Txt K mg) : DefS P w K mg base 12 "meets_itself" s_meets_itself ["roster"] m_meets_itself := by
  obtain ⟨f, fd, hm, Fu⟩ := T.d_meets_itself
  refine ⟨f, fd, fn_ok (k := 11) (m := 0) (body := b_meets_itself) Fu sc_meets_itself rfl rfl fun cdv A outer s H E hr => ?_, hm, Fu⟩
  exact es_one (es_ret (ev_call (o_meet_each T) hr (by decide) (by rfl) (takes_of rfl rfl rfl rfl) (ea_cons (ev_var (pv 0)) (ea_cons (ev_var (pv 0)) (ea_nil))) (hn := al_cons (al_cons (al_nil)))))
theorem o_meets_itself (T : Txt K mg) : DefOk P w K mg base 12 "meets_itself" ["roster"] m_meets_itself := (d_meets_itself T).ok (fun _ _ _ _ _ _ us hl => match us, hl with | [_], _ => rfl)
def b_up_chance : S := sSeq (sSet 2 (eCall (m_tuple_of 8) (aCons (eVar 0) (aNil)))) (sSeq (sSet 3 (eCall m_folk_in (aCons (eVar 2) (aNil)))) (sRet (eCall m_chance_of_sets (aCons (eVar 3) (aCons (eLc [4] (iSeq (eCall m_all_sets (aCons (eVar 3) (aNil)))) (bNm 4) (tTr (eCall m_up_in (aCons (eVar 2) (aCons (eVar 4) (aNil))))) (eVar 4)) (aCons (eVar 1) (aNil)))))))
def m_up_chance : Fn := bodyF 3 b_up_chance
theorem d_up_chance (T : Txt K mg) : DefS P w K mg base 12 "up_chance" s_up_chance ["roster", "chances"] m_up_chance := by
  obtain ⟨f, fd, hm, Fu⟩ := T.d_up_chance
  refine ⟨f, fd, fn_ok (k := 11) (m := 3) (body := b_up_chance) Fu sc_up_chance rfl rfl fun cdv A outer s H E hr => ?_, hm, Fu⟩
  exact es_cons (es_set (i := 2) sc_up_chance.nd rfl (Or.inr rfl) (ev_call (o_tuple_of T 8) hr (by decide) (by rfl) (takes_of rfl rfl rfl rfl) (ea_cons (ev_var (pv 0)) (ea_nil)) (hn := al_cons (al_nil)))) (es_cons (es_set (i := 3) sc_up_chance.nd rfl (Or.inl rfl) (ev_call (o_folk_in T) hr (by decide) (by rfl) (takes_of rfl rfl rfl rfl) (ea_cons (ev_var (pv 2)) (ea_nil)) (hn := al_cons (al_nil)))) (es_one (es_ret (ev_call (o_chance_of_sets T) hr (by decide) (by rfl) (takes_of rfl rfl rfl rfl) (ea_cons (ev_var (pv 3)) (ea_cons (ev_lc (own := [("own", 4)]) rfl sc_up_chance.nd (js := [4]) (blkOk_by (own := [("own", 4)]) (N := N_up_chance) (sc := defScope s_up_chance) (by decide +kernel)) (by decide) (ei_seq (ev_call (o_all_sets T) hr (by decide) (by rfl) (takes_of rfl rfl rfl rfl) (ea_cons (ev_var (pv 3)) (ea_nil)) (hn := al_cons (al_nil)))) (fun _ _ _ _ _ => tb_nm (pg_name (i := 4) sc_up_chance.nd rfl (Or.inl rfl))) (fun _ _ _ _ _ => ets_one (et_truth (ev_call (o_up_in T) hr (by decide) (by rfl) takes0 (ea_cons (ev_var (pv 2)) (ea_cons (ev_var (pv 4)) (ea_nil))) (hn := al_cons (al_cons (al_nil)))))) (fun _ _ _ _ _ => ev_var (pv 4))) (ea_cons (ev_var (pv 1)) (ea_nil)))) (hn := al_cons (al_cons (al_cons (al_nil))))))))
theorem o_up_chance (T : Txt K mg) : DefOk P w K mg base 12 "up_chance" ["roster", "chances"] m_up_chance := (d_up_chance T).ok (fun _ _ _ _ _ _ us hl => match us, hl with | [_, _], _ => rfl)
def b_is_likeliest : S := sSeq (sPar 3 4 (eCall (m_tuple_of 8) (aCons (eVar 0) (aNil))) (eCall m_sure_likely (aCons (eVar 1) (aCons (eVar 2) (aNil))))) (sSeq (sIf (tOrM (tNotM (tTr (eB (on1 dAll) (aCons (eLc [5] (iSeq (eCall m_folk_in (aCons (eVar 3) (aNil)))) (bNm 5) (Ev.ret true) (eOp2 dIn (eVar 5) (eVar 4))) (aNil))))) (tNotM (tTr (eCall m_meets_itself (aCons (eVar 3) (aNil)))))) (sRet (eK (.bool false))) (sNx)) (sRet (eOp2 dEq (eCall m_up_chance (aCons (eVar 3) (aCons (eVar 1) (aNil)))) (eCall m_likelier_chance (aCons (eVar 1) (aCons (eVar 4) (aNil)))))))
def m_is_likeliest : Fn := bodyF 3 b_is_likeliest
theorem d_is_likeliest (T : Txt K mg) : DefS P w K mg base 13 "is_likeliest" s_is_likeliest ["roster", "chances", "keepers"] m_is_likeliest := by
  obtain ⟨f, fd, hm, Fu⟩ := T.d_is_likeliest
  refine ⟨f, fd, fn_ok (k := 12) (m := 3) (body := b_is_likeliest) Fu sc_is_likeliest rfl rfl fun cdv A outer s H E hr => ?_, hm, Fu⟩
  exact es_cons (es_par2 (i := 3) (j := 4) rfl (by decide) (pg_name (i := 3) sc_is_likeliest.nd rfl (Or.inl rfl)) (pg_name (i := 4) sc_is_likeliest.nd rfl (Or.inr rfl)) (ev_call (o_tuple_of T 8) hr (by decide) (by rfl) (takes_of rfl rfl rfl rfl) (ea_cons (ev_var (pv 0)) (ea_nil)) (hn := al_cons (al_nil))) (ev_call (o_sure_likely T) hr (by decide) (by rfl) (takes_of rfl rfl rfl rfl) (ea_cons (ev_var (pv 1)) (ea_cons (ev_var (pv 2)) (ea_nil))) (hn := al_cons (al_cons (al_nil))))) (es_cons (es_if (PW.pt (ew_or (et_not (et_truth (ev_B (cr_allD rfl) (by rfl) T.b_all boot_all (ea_cons (ev_lc (own := [("keeper", 5)]) rfl sc_is_likeliest.nd (js := [5]) (blkOk_by (own := [("keeper", 5)]) (N := N_is_likeliest) (sc := defScope s_is_likeliest) (by decide +kernel)) (by decide) (ei_seq (ev_call (o_folk_in T) hr (by decide) (by rfl) (takes_of rfl rfl rfl rfl) (ea_cons (ev_var (pv 3)) (ea_nil)) (hn := al_cons (al_nil)))) (fun _ _ _ _ _ => tb_nm (pg_name (i := 5) sc_is_likeliest.nd rfl (Or.inl rfl))) (fun _ _ _ _ _ => ets_nil) (fun _ _ _ _ _ => ev_cmp (op_inDD (hu65 hr)) (by rfl) (ev_var (pv 5)) (ev_var (pv 4)))) (ea_nil))))) (ew_or1 (et_not (et_truth (ev_call (o_meets_itself T) hr (by decide) (by rfl) (takes_of rfl rfl rfl rfl) (ea_cons (ev_var (pv 3)) (ea_nil)) (hn := al_cons (al_nil)))))))) (es_one (es_ret (ev_bl))) (es_nil)) (es_one (es_ret (ev_cmp (op_eqDD (hu64 hr)) (by rfl) (ev_call (o_up_chance T) hr (by decide) (by rfl) (takes_of rfl rfl rfl rfl) (ea_cons (ev_var (pv 3)) (ea_cons (ev_var (pv 1)) (ea_nil))) (hn := al_cons (al_cons (al_nil)))) (ev_call (o_likelier_chance T) hr (by decide) (by rfl) (takes_of rfl rfl rfl rfl) (ea_cons (ev_var (pv 1)) (ea_cons (ev_var (pv 4)) (ea_nil))) (hn := al_cons (al_cons (al_nil))))))))
theorem o_is_likeliest (T : Txt K mg) : DefOk P w K mg base 13 "is_likeliest" ["roster", "chances", "keepers"] m_is_likeliest := (d_is_likeliest T).ok (fun _ _ _ _ _ _ us hl => match us, hl with | [_, _, _], _ => rfl)
def b__law_try : S := sSeq (sPar 5 6 (eK (.str "")) (eK .none)) (sSeq (sTry mX true (sIf (tBool (eOp2 dLt (eVar 0) (eK (.int 3)))) (sSet 6 (eIf (tBool (eOp2 dEq (eVar 0) (eK (.int 0)))) (eCall m_never_dips (aCons (eVar 1) (aCons (eVar 3) (aCons (eVar 4) (aNil))))) (eIf (tBool (eOp2 dEq (eVar 0) (eK (.int 1)))) (eCall m_dip (aCons (eVar 1) (aCons (eVar 3) (aCons (eVar 4) (aNil))))) (eCall m_zeros_along (aCons (eVar 1) (aCons (eVar 3) (aCons (eVar 4) (aNil)))))))) (sIf (tBool (eOp2 dLt (eVar 0) (eK (.int 5)))) (sSet 6 (eIf (tBool (eOp2 dEq (eVar 0) (eK (.int 3)))) (eCall m_no_worse (aCons (eVar 1) (aCons (eVar 2) (aCons (eVar 3) (aCons (eVar 4) (aNil)))))) (eCall m_worse_at (aCons (eVar 1) (aCons (eVar 2) (aCons (eVar 3) (aCons (eVar 4) (aNil)))))))) (sIf (tBool (eOp2 dLt (eVar 0) (eK (.int 7)))) (sSet 6 (eIf (tBool (eOp2 dEq (eVar 0) (eK (.int 5)))) (eCall m_is_worse_at (aCons (eVar 1) (aCons (eVar 2) (aCons (eVar 3) (aCons (eVar 4) (aCons (eTup (aCons (eK (.int 1)) (aCons (eK (.int 4)) (aNil)))) (aNil))))))) (eCall m_even_odds (aCons (eVar 1) (aCons (eVar 2) (aCons (eVar 3) (aCons (eVar 4) (aNil)))))))) (sSet 6 (eIf (tBool (eOp2 dEq (eVar 0) (eK (.int 7)))) (eCall m_likelier_roster (aCons (eVar 3) (aCons (eVar 4) (aNil)))) (eIf (tBool (eOp2 dEq (eVar 0) (eK (.int 8)))) (eCall m_likelier_chance (aCons (eVar 3) (aCons (eVar 4) (aNil)))) (eCall m_is_likeliest (aCons (eVar 1) (aCons (eVar 3) (aCons (eVar 4) (aNil))))))))))) [("CanNot", some 7, fun _ => sSet 5 (eLst (aCons (eK (.str "CanNot")) (aCons (eK (.bool true)) (aNil))))), ("Unfit", some 7, fun _ => sSet 5 (eLst (aCons (eK (.str "Unfit")) (aCons (eK (.bool true)) (aNil)))))]) (sRet (eTup (aCons (eVar 5) (aCons (eVar 6) (aNil))))))
def m__law_try : Fn := bodyF 3 b__law_try
theorem d__law_try (T : Txt K mg) : DefS P w K mg base 18 "_law_try" s__law_try ["door", "one", "other", "low", "high"] m__law_try := by
  obtain ⟨f, fd, hm, Fu⟩ := T.d__law_try
  refine ⟨f, fd, fn_ok (k := 17) (m := 3) (body := b__law_try) Fu sc__law_try rfl rfl fun cdv A outer s H E hr => ?_, hm, Fu⟩
  exact es_cons (es_par2 (i := 5) (j := 6) rfl (by decide) (pg_name (i := 5) sc__law_try.nd rfl (Or.inl rfl)) (pg_name (i := 6) sc__law_try.nd rfl (Or.inl rfl)) (ev_str) (ev_non)) (es_cons (es_try (all := true) rfl rfl sc__law_try.nd (takes_of rfl rfl rfl rfl) (fun W pn xe tkB poB => es_one (es_if (et_cmp (op_ltD (hu64 hr)) (by rfl) (ev_var (pv 0)) (ev_int)) (es_one (es_set (i := 6) sc__law_try.nd rfl (Or.inl rfl) (ev_if (et_cmp (op_eqDD (hu64 hr)) (by rfl) (ev_var (pv 0)) (ev_int)) (ev_call (o_never_dips T) hr (by decide) (by rfl) tkB (ea_cons (ev_var (pv 1)) (ea_cons (ev_var (pv 3)) (ea_cons (ev_var (pv 4)) (ea_nil)))) (hn := al_cons (al_cons (al_cons (al_nil))))) (ev_if (et_cmp (op_eqDD (hu64 hr)) (by rfl) (ev_var (pv 0)) (ev_int)) (ev_call (o_dip T) hr (by decide) (by rfl) tkB (ea_cons (ev_var (pv 1)) (ea_cons (ev_var (pv 3)) (ea_cons (ev_var (pv 4)) (ea_nil)))) (hn := al_cons (al_cons (al_cons (al_nil))))) (ev_call (o_zeros_along T) hr (by decide) (by rfl) tkB (ea_cons (ev_var (pv 1)) (ea_cons (ev_var (pv 3)) (ea_cons (ev_var (pv 4)) (ea_nil)))) (hn := al_cons (al_cons (al_cons (al_nil))))))))) (es_one (es_if (et_cmp (op_ltD (hu64 hr)) (by rfl) (ev_var (pv 0)) (ev_int)) (es_one (es_set (i := 6) sc__law_try.nd rfl (Or.inl rfl) (ev_if (et_cmp (op_eqDD (hu64 hr)) (by rfl) (ev_var (pv 0)) (ev_int)) (ev_call (o_no_worse T) hr (by decide) (by rfl) tkB (ea_cons (ev_var (pv 1)) (ea_cons (ev_var (pv 2)) (ea_cons (ev_var (pv 3)) (ea_cons (ev_var (pv 4)) (ea_nil))))) (hn := al_cons (al_cons (al_cons (al_cons (al_nil)))))) (ev_call (o_worse_at T) hr (by decide) (by rfl) tkB (ea_cons (ev_var (pv 1)) (ea_cons (ev_var (pv 2)) (ea_cons (ev_var (pv 3)) (ea_cons (ev_var (pv 4)) (ea_nil))))) (hn := al_cons (al_cons (al_cons (al_cons (al_nil))))))))) (es_one (es_if (et_cmp (op_ltD (hu64 hr)) (by rfl) (ev_var (pv 0)) (ev_int)) (es_one (es_set (i := 6) sc__law_try.nd rfl (Or.inl rfl) (ev_if (et_cmp (op_eqDD (hu64 hr)) (by rfl) (ev_var (pv 0)) (ev_int)) (ev_call (o_is_worse_at T) hr (by decide) (by rfl) tkB (ea_cons (ev_var (pv 1)) (ea_cons (ev_var (pv 2)) (ea_cons (ev_var (pv 3)) (ea_cons (ev_var (pv 4)) (ea_cons (ev_tup (ea_cons (ev_int) (ea_cons (ev_int) (ea_nil)))) (ea_nil)))))) (hn := al_cons (al_cons (al_cons (al_cons (al_cons (al_nil))))))) (ev_call (o_even_odds T) hr (by decide) (by rfl) tkB (ea_cons (ev_var (pv 1)) (ea_cons (ev_var (pv 2)) (ea_cons (ev_var (pv 3)) (ea_cons (ev_var (pv 4)) (ea_nil))))) (hn := al_cons (al_cons (al_cons (al_cons (al_nil))))))))) (es_one (es_set (i := 6) sc__law_try.nd rfl (Or.inl rfl) (ev_if (et_cmp (op_eqDD (hu64 hr)) (by rfl) (ev_var (pv 0)) (ev_int)) (ev_call (o_likelier_roster T) hr (by decide) (by rfl) tkB (ea_cons (ev_var (pv 3)) (ea_cons (ev_var (pv 4)) (ea_nil))) (hn := al_cons (al_cons (al_nil)))) (ev_if (et_cmp (op_eqDD (hu64 hr)) (by rfl) (ev_var (pv 0)) (ev_int)) (ev_call (o_likelier_chance T) hr (by decide) (by rfl) tkB (ea_cons (ev_var (pv 3)) (ea_cons (ev_var (pv 4)) (ea_nil))) (hn := al_cons (al_cons (al_nil)))) (ev_call (o_is_likeliest T) hr (by decide) (by rfl) tkB (ea_cons (ev_var (pv 1)) (ea_cons (ev_var (pv 3)) (ea_cons (ev_var (pv 4)) (ea_nil)))) (hn := al_cons (al_cons (al_cons (al_nil))))))))))))))) (HOk.name (i := 7) ⟨by rfl, by decide, .inl T.e_CanNot.choose_spec.gC⟩ (fun xc b cls h1 h2 => T.x_all xc "CanNot" b h1 cls _ h2 T.e_CanNot.choose_spec.gC) rfl rfl (fun a oe pn xc cls h0 h1 hz hf => esx_one (evx_set (j := 5) sc__law_try.nd rfl (Or.inl rfl) (evx_lst (eax_cons (evx_of (ev_str)) (eax_cons (evx_isi (D := T.e_CanNot.choose) T.c_CanNot (z_of T.e_CanNot.choose_spec.gC h0 h1 hz) hf (by rfl) T.b_isinstance (pv 7) (cn_bt (by rfl) T.b_ValueError boot_ValueError) T.i_CanNot_ValueError) (eax_nil)))))) (HOk.name (i := 7) ⟨by rfl, by decide, .inl T.e_Unfit.choose_spec.gC⟩ (fun xc b cls h1 h2 => T.x_all xc "Unfit" b h1 cls _ h2 T.e_Unfit.choose_spec.gC) rfl rfl (fun a oe pn xc cls h0 h1 hz hf => esx_one (evx_set (j := 5) sc__law_try.nd rfl (Or.inl rfl) (evx_lst (eax_cons (evx_of (ev_str)) (eax_cons (evx_isi (D := T.e_Unfit.choose) T.c_Unfit (z_of T.e_Unfit.choose_spec.gC h0 h1 hz) hf (by rfl) T.b_isinstance (pv 7) (cn_bt (by rfl) T.b_ValueError boot_ValueError) T.i_Unfit_ValueError) (eax_nil)))))) (HOk.nil)))) (es_one (es_ret (ev_tup (ea_cons (ev_var (pv 5)) (ea_cons (ev_var (pv 6)) (ea_nil)))))))
theorem o__law_try (T : Txt K mg) : DefOk P w K mg base 18 "_law_try" ["door", "one", "other", "low", "high"] m__law_try := (d__law_try T).ok (fun _ _ _ _ _ _ us hl => match us, hl with | [_, _, _, _, _], _ => rfl)
def b_is_curve : S := sSeq (sIf (tOrM (tNotM (tTr (eOp1 isTu (eVar 0)))) (tNotM (tTr (eB (on1 dAll) (aCons (eLc [1] (iSeq (eVar 0)) (bNm 1) (Ev.ret true) (eCall m_is_fraction (aCons (eVar 1) (aNil)))) (aNil)))))) (sRet (eK (.bool false))) (sNx)) (sRet (eOrV (eOp2 dEq (eVar 0) (eTup (aNil))) (eOp2 dNe (eOp2 dIx (eVar 0) (eOp1 dNeg (eK (.int 1)))) (eK k_NOTHING))))
def m_is_curve : Fn := bodyF 1 b_is_curve
theorem d_is_curve (T : Txt K mg) : DefS P w K mg base 3 "is_curve" s_is_curve ["thing"] m_is_curve := by
  obtain ⟨f, fd, hm, Fu⟩ := T.d_is_curve
  refine ⟨f, fd, fn_ok (k := 2) (m := 1) (body := b_is_curve) Fu sc_is_curve rfl rfl fun cdv A outer s H E hr => ?_, hm, Fu⟩
  exact es_cons (es_if (PW.pt (ew_or (et_not (et_truth (ev_isO isTu_eq (ev_isi (t := "tuple") (by rfl) T.b_isinstance (ev_var (pv 0)) (pty "tuple" (by rfl) T.b_tuple PyProof.Rows.boot_tuple))))) (ew_or1 (et_not (et_truth (ev_B (cr_allD rfl) (by rfl) T.b_all boot_all (ea_cons (ev_lc (own := [("own", 1)]) rfl sc_is_curve.nd (js := [1]) (blkOk_by (own := [("own", 1)]) (N := N_is_curve) (sc := defScope s_is_curve) (by decide +kernel)) (by decide) (ei_seq (ev_var (pv 0))) (fun _ _ _ _ _ => tb_nm (pg_name (i := 1) sc_is_curve.nd rfl (Or.inl rfl))) (fun _ _ _ _ _ => ets_nil) (fun _ _ _ _ _ => ev_call (o_is_fraction T) hr (by decide) (by rfl) takes0 (ea_cons (ev_var (pv 1)) (ea_nil)) (hn := al_cons (al_nil)))) (ea_nil)))))))) (es_one (es_ret (ev_bl))) (es_nil)) (es_one (es_ret (ev_or (ev_cmp (op_eqDD (hu64 hr)) (by rfl) (ev_var (pv 0)) (ev_tup (ea_nil))) (ev_one (ev_cmp (op_neDD (hu64 hr)) (by rfl) (ev_ix (fun _ _ => rfl) (ev_var (pv 0)) (ev_un un_negD (ev_int))) (ev_const (by rfl) T.k_NOTHING))))))
theorem o_is_curve (T : Txt K mg) : DefOk P w K mg base 3 "is_curve" ["thing"] m_is_curve := (d_is_curve T).ok (fun _ _ _ _ _ _ us hl => match us, hl with | [_], _ => rfl)
def b_curve_at : S := sRet (eCall m_curve_in (aCons (eCall (m_tuple_of 8) (aCons (eVar 0) (aNil))) (aCons (eCall (m_tuple_of 8) (aCons (eVar 1) (aNil))) (aNil))))
def m_curve_at : Fn := bodyF 0 b_curve_at
theorem d_curve_at (T : Txt K mg) : DefS P w K mg base 10 "curve_at" s_curve_at ["curve", "x"] m_curve_at := by
  obtain ⟨f, fd, hm, Fu⟩ := T.d_curve_at
  refine ⟨f, fd, fn_ok (k := 9) (m := 0) (body := b_curve_at) Fu sc_curve_at rfl rfl fun cdv A outer s H E hr => ?_, hm, Fu⟩
  exact es_one (es_ret (ev_call (o_curve_in T) hr (by decide) (by rfl) (takes_of rfl rfl rfl rfl) (ea_cons (ev_call (o_tuple_of T 8) hr (by decide) (by rfl) (takes_of rfl rfl rfl rfl) (ea_cons (ev_var (pv 0)) (ea_nil)) (hn := al_cons (al_nil))) (ea_cons (ev_call (o_tuple_of T 8) hr (by decide) (by rfl) (takes_of rfl rfl rfl rfl) (ea_cons (ev_var (pv 1)) (ea_nil)) (hn := al_cons (al_nil))) (ea_nil))) (hn := al_cons (al_cons (al_nil)))))
theorem o_curve_at (T : Txt K mg) : DefOk P w K mg base 10 "curve_at" ["curve", "x"] m_curve_at := (d_curve_at T).ok (fun _ _ _ _ _ _ us hl => match us, hl with | [_, _], _ => rfl)
def b_curve_mirrored : S := sSeq (sSet 1 (eTup (aNil))) (sSeq (sFor (iRev (eCall (m_tuple_of 8) (aCons (eVar 0) (aNil)))) (bNm 2) (sSet 1 (eCall m_curve_sum (aCons (eCall m_curve_product (aCons (eVar 1) (aCons (eTup (aCons (eK k_WHOLE) (aCons (eTup (aCons (eOp1 dNeg (eK (.int 1))) (aCons (eK (.int 1)) (aNil)))) (aNil)))) (aNil)))) (aCons (eCall m_curve_of (aCons (eLst (aCons (eVar 2) (aNil))) (aNil))) (aNil)))))) (sRet (eVar 1)))
def m_curve_mirrored : Fn := bodyF 2 b_curve_mirrored
theorem d_curve_mirrored (T : Txt K mg) : DefS P w K mg base 11 "curve_mirrored" s_curve_mirrored ["curve"] m_curve_mirrored := by
  obtain ⟨f, fd, hm, Fu⟩ := T.d_curve_mirrored
  refine ⟨f, fd, fn_ok (k := 10) (m := 2) (body := b_curve_mirrored) Fu sc_curve_mirrored rfl rfl fun cdv A outer s H E hr => ?_, hm, Fu⟩
  exact es_cons (es_set (i := 1) sc_curve_mirrored.nd rfl (Or.inl rfl) (ev_tup (ea_nil))) (es_cons (es_for (js := [2]) (passes_of rfl) rfl (ei_rev (by rfl) T.b_reversed (ev_call (o_tuple_of T 8) hr (by decide) (by rfl) (takes_of rfl rfl rfl rfl) (ea_cons (ev_var (pv 0)) (ea_nil)) (hn := al_cons (al_nil)))) (tb_nm (pg_name (i := 2) sc_curve_mirrored.nd rfl (Or.inl rfl))) (es_one (es_set (i := 1) sc_curve_mirrored.nd rfl (Or.inl rfl) (ev_call (o_curve_sum T) hr (by decide) (by rfl) (takes_of rfl rfl rfl rfl) (ea_cons (ev_call (o_curve_product T) hr (by decide) (by rfl) (takes_of rfl rfl rfl rfl) (ea_cons (ev_var (pv 1)) (ea_cons (ev_tup (ea_cons (ev_const (by rfl) T.k_WHOLE) (ea_cons (ev_tup (ea_cons (ev_un un_negD (ev_int)) (ea_cons (ev_int) (ea_nil)))) (ea_nil)))) (ea_nil))) (hn := al_cons (al_cons (al_nil)))) (ea_cons (ev_call (o_curve_of T) hr (by decide) (by rfl) (takes_of rfl rfl rfl rfl) (ea_cons (ev_lst (ea_cons (ev_var (pv 2)) (ea_nil))) (ea_nil)) (hn := al_cons (al_nil))) (ea_nil))) (hn := al_cons (al_cons (al_nil))))))) (es_one (es_ret (ev_var (pv 1)))))
theorem o_curve_mirrored (T : Txt K mg) : DefOk P w K mg base 11 "curve_mirrored" ["curve"] m_curve_mirrored := (d_curve_mirrored T).ok (fun _ _ _ _ _ _ us hl => match us, hl with | [_], _ => rfl)
def b__law_soft (rec : Fn) : S := sRet (eIf (tTr (eIsG isLT (eVar 0))) (eLc [1] (iSeq (eVar 0)) (bNm 1) (Ev.ret true) (eCall rec (aCons (eVar 1) (aNil)))) (eVar 0))
def m__law_soft : Nat → Fn
  | 0 => fun _ => .bad
  | n + 1 => bodyF 1 (b__law_soft (m__law_soft n))
theorem d__law_soft (T : Txt K mg) : ∀ n, DefS P w K mg base (1 + n) "_law_soft" s__law_soft ["matter"] (m__law_soft n)
  | 0 => by
    obtain ⟨f, fd, hm, Fu⟩ := T.d__law_soft
    exact ⟨f, fd, fn_bad (k := 0) Fu sc__law_soft rfl, hm, Fu⟩
  | n + 1 => by
    have GS := d__law_soft T n
    have GO := GS.ok (fun _ _ _ _ _ _ us hl => match us, hl with | [_], _ => rfl)
    obtain ⟨f, fd, hm, Fu⟩ := T.d__law_soft
    refine ⟨f, fd, fn_ok (k := 1 + n) (m := 1) (body := b__law_soft (m__law_soft n)) Fu sc__law_soft rfl rfl fun cdv A outer s H E hr => ?_, hm, Fu⟩
    exact es_one (es_ret (ev_if (et_truth (ev_isG isLT_eq (ev_isis (ts := ["list", "tuple"]) (by rfl) T.b_isinstance (ev_var (pv 0)) (pa_cons (pty "list" (by rfl) T.b_list PyProof.Rows.boot_list) (pa_cons (pty "tuple" (by rfl) T.b_tuple PyProof.Rows.boot_tuple) (pa_nil))) (fun _ _ _ h => h) (by decide)))) (ev_lc (own := [("bit", 1)]) rfl sc__law_soft.nd (js := [1]) (blkOk_by (own := [("bit", 1)]) (N := N__law_soft) (sc := defScope s__law_soft) (by decide +kernel)) (by decide) (ei_seq (ev_var (pv 0))) (fun _ _ _ _ _ => tb_nm (pg_name (i := 1) sc__law_soft.nd rfl (Or.inl rfl))) (fun _ _ _ _ _ => ets_nil) (fun _ _ _ _ _ => ev_call GO hr (Nat.le_refl _) (by rfl) takes0 (ea_cons (ev_var (pv 1)) (ea_nil)) (hn := al_cons (al_nil)))) (ev_var (pv 0))))
theorem o__law_soft (T : Txt K mg) (n : Nat) : DefOk P w K mg base (1 + n) "_law_soft" ["matter"] (m__law_soft n) := (d__law_soft T n).ok (fun _ _ _ _ _ _ us hl => match us, hl with | [_], _ => rfl)
def b__law_less : S := sRet (eOp2 dLt (eOp2 dMul (eOp2 dIx (eVar 0) (eK (.int 0))) (eOp2 dIx (eVar 1) (eK (.int 1)))) (eOp2 dMul (eOp2 dIx (eVar 1) (eK (.int 0))) (eOp2 dIx (eVar 0) (eK (.int 1)))))
def m__law_less : Fn := bodyF 0 b__law_less
theorem d__law_less (T : Txt K mg) : DefS P w K mg base 1 "_law_less" s__law_less ["one", "other"] m__law_less := by
  obtain ⟨f, fd, hm, Fu⟩ := T.d__law_less
  refine ⟨f, fd, fn_ok (k := 0) (m := 0) (body := b__law_less) Fu sc__law_less rfl rfl fun cdv A outer s H E hr => ?_, hm, Fu⟩
  exact es_one (es_ret (ev_cmp (op_ltD (hu64 hr)) (by rfl) (ev_op op_mulD (ev_ix (fun _ _ => rfl) (ev_var (pv 0)) (ev_int)) (ev_ix (fun _ _ => rfl) (ev_var (pv 1)) (ev_int))) (ev_op op_mulD (ev_ix (fun _ _ => rfl) (ev_var (pv 1)) (ev_int)) (ev_ix (fun _ _ => rfl) (ev_var (pv 0)) (ev_int)))))
theorem o__law_less (T : Txt K mg) : DefOk P w K mg base 1 "_law_less" ["one", "other"] m__law_less := (d__law_less T).ok (fun _ _ _ _ _ _ us hl => match us, hl with | [_, _], _ => rfl)
def b__law_over : S := sSeq (sPar 2 3 (eB (on1 dAbs) (aCons (eVar 0) (aNil))) (eB (on1 dAbs) (aCons (eVar 1) (aNil)))) (sSeq ((fun ρ => whL (tBool (eOp2 dGt (eVar 3) (eK (.int 0)))) (sPar 2 3 (eVar 3) (eOp2 dMod (eB (on1 dInt) (aCons (eVar 2) (aNil))) (eVar 3))) ((fun _ => 1000000) ρ) ρ)) (sSeq (sSet 2 (eIf (tBool (eOp2 dGt (eVar 1) (eK (.int 0)))) (eVar 2) (eOp2 dSub (eK (.int 0)) (eVar 2)))) (sRet (eTup (aCons (eOp2 dDiv (eVar 0) (eVar 2)) (aCons (eOp2 dDiv (eVar 1) (eVar 2)) (aNil)))))))
def m__law_over : Fn := bodyF 2 b__law_over
theorem d__law_over (T : Txt K mg) : DefS P w K mg base 1 "_law_over" s__law_over ["top", "bottom"] m__law_over := by
  obtain ⟨f, fd, hm, Fu⟩ := T.d__law_over
  refine ⟨f, fd, fn_ok (k := 0) (m := 2) (body := b__law_over) Fu sc__law_over rfl rfl fun cdv A outer s H E hr => ?_, hm, Fu⟩
  exact es_cons (es_par (i := 2) (j := 3) rfl sc__law_over.nd rfl rfl (by decide) rfl rfl (ev_B cr_absD (by rfl) T.b_abs boot_abs (ea_cons (ev_var (pv 0)) (ea_nil))) (ev_B cr_absD (by rfl) T.b_abs boot_abs (ea_cons (ev_var (pv 1)) (ea_nil))) (by rfl)) (es_cons (es_while (fun _ => 1000000) (passes_of rfl) (et_cmp (op_gtD (hu64 hr)) (by rfl) (ev_var (pv 3)) (ev_int)) (es_one (es_par (i := 2) (j := 3) rfl sc__law_over.nd rfl rfl (by decide) rfl rfl (ev_var (pv 3)) (ev_op op_modD (ev_Ty cr_intD (by rfl) T.b_int PyProof.Rows.boot_int (ea_cons (ev_var (pv 2)) (ea_nil))) (ev_var (pv 3))) (by rfl)))) (es_cons (es_set (i := 2) sc__law_over.nd rfl (Or.inl rfl) (ev_if (et_cmp (op_gtD (hu64 hr)) (by rfl) (ev_var (pv 1)) (ev_int)) (ev_var (pv 2)) (ev_op op_subD (ev_int) (ev_var (pv 2))))) (es_one (es_ret (ev_tup (ea_cons (ev_op op_divD (ev_var (pv 0)) (ev_var (pv 2))) (ea_cons (ev_op op_divD (ev_var (pv 1)) (ev_var (pv 2))) (ea_nil))))))))
theorem o__law_over (T : Txt K mg) : DefOk P w K mg base 1 "_law_over" ["top", "bottom"] m__law_over := (d__law_over T).ok (fun _ _ _ _ _ _ us hl => match us, hl with | [_, _], _ => rfl)
def b__law_plus : S := sRet (eCall m__law_over (aCons (eOp2 dAdd (eOp2 dMul (eOp2 dIx (eVar 0) (eK (.int 0))) (eOp2 dIx (eVar 1) (eK (.int 1)))) (eOp2 dMul (eOp2 dIx (eVar 1) (eK (.int 0))) (eOp2 dIx (eVar 0) (eK (.int 1))))) (aCons (eOp2 dMul (eOp2 dIx (eVar 0) (eK (.int 1))) (eOp2 dIx (eVar 1) (eK (.int 1)))) (aNil))))
def m__law_plus : Fn := bodyF 0 b__law_plus
theorem d__law_plus (T : Txt K mg) : DefS P w K mg base 2 "_law_plus" s__law_plus ["one", "other"] m__law_plus := by
  obtain ⟨f, fd, hm, Fu⟩ := T.d__law_plus
  refine ⟨f, fd, fn_ok (k := 1) (m := 0) (body := b__law_plus) Fu sc__law_plus rfl rfl fun cdv A outer s H E hr => ?_, hm, Fu⟩
  exact es_one (es_ret (ev_call (o__law_over T) hr (by decide) (by rfl) (takes_of rfl rfl rfl rfl) (ea_cons (ev_op op_addD (ev_op op_mulD (ev_ix (fun _ _ => rfl) (ev_var (pv 0)) (ev_int)) (ev_ix (fun _ _ => rfl) (ev_var (pv 1)) (ev_int))) (ev_op op_mulD (ev_ix (fun _ _ => rfl) (ev_var (pv 1)) (ev_int)) (ev_ix (fun _ _ => rfl) (ev_var (pv 0)) (ev_int)))) (ea_cons (ev_op op_mulD (ev_ix (fun _ _ => rfl) (ev_var (pv 0)) (ev_int)) (ev_ix (fun _ _ => rfl) (ev_var (pv 1)) (ev_int))) (ea_nil))) (hn := al_cons (al_cons (al_nil)))))
theorem o__law_plus (T : Txt K mg) : DefOk P w K mg base 2 "_law_plus" ["one", "other"] m__law_plus := (d__law_plus T).ok (fun _ _ _ _ _ _ us hl => match us, hl with | [_, _], _ => rfl)
def b__law_times : S := sRet (eCall m__law_over (aCons (eOp2 dMul (eOp2 dIx (eVar 0) (eK (.int 0))) (eOp2 dIx (eVar 1) (eK (.int 0)))) (aCons (eOp2 dMul (eOp2 dIx (eVar 0) (eK (.int 1))) (eOp2 dIx (eVar 1) (eK (.int 1)))) (aNil))))
def m__law_times : Fn := bodyF 0 b__law_times
theorem d__law_times (T : Txt K mg) : DefS P w K mg base 2 "_law_times" s__law_times ["one", "other"] m__law_times := by
  obtain ⟨f, fd, hm, Fu⟩ := T.d__law_times
  refine ⟨f, fd, fn_ok (k := 1) (m := 0) (body := b__law_times) Fu sc__law_times rfl rfl fun cdv A outer s H E hr => ?_, hm, Fu⟩
  exact es_one (es_ret (ev_call (o__law_over T) hr (by decide) (by rfl) (takes_of rfl rfl rfl rfl) (ea_cons (ev_op op_mulD (ev_ix (fun _ _ => rfl) (ev_var (pv 0)) (ev_int)) (ev_ix (fun _ _ => rfl) (ev_var (pv 1)) (ev_int))) (ea_cons (ev_op op_mulD (ev_ix (fun _ _ => rfl) (ev_var (pv 0)) (ev_int)) (ev_ix (fun _ _ => rfl) (ev_var (pv 1)) (ev_int))) (ea_nil))) (hn := al_cons (al_cons (al_nil)))))
theorem o__law_times (T : Txt K mg) : DefOk P w K mg base 2 "_law_times" ["one", "other"] m__law_times := (d__law_times T).ok (fun _ _ _ _ _ _ us hl => match us, hl with | [_, _], _ => rfl)
def b__law_at : S := sSeq (sSet 2 (eTup (aCons (eK (.int 0)) (aCons (eK (.int 1)) (aNil))))) (sSeq (sFor (iSeq (eOp2 dRevT (eVar 0) (eOp1 dNeg (eK (.int 1))))) (bNm 3) (sSet 2 (eCall m__law_plus (aCons (eCall m__law_times (aCons (eVar 2) (aCons (eVar 1) (aNil)))) (aCons (eVar 3) (aNil)))))) (sRet (eVar 2)))
def m__law_at : Fn := bodyF 2 b__law_at
theorem d__law_at (T : Txt K mg) : DefS P w K mg base 3 "_law_at" s__law_at ["curve", "x"] m__law_at := by
  obtain ⟨f, fd, hm, Fu⟩ := T.d__law_at
  refine ⟨f, fd, fn_ok (k := 2) (m := 2) (body := b__law_at) Fu sc__law_at rfl rfl fun cdv A outer s H E hr => ?_, hm, Fu⟩
  exact es_cons (es_set (i := 2) sc__law_at.nd rfl (Or.inl rfl) (ev_tup (ea_cons (ev_int) (ea_cons (ev_int) (ea_nil))))) (es_cons (es_for (js := [3]) (passes_of rfl) rfl (ei_seq (ev_revT (ev_var (pv 0)) (ev_un un_negD (ev_int)))) (tb_nm (pg_name (i := 3) sc__law_at.nd rfl (Or.inl rfl))) (es_one (es_set (i := 2) sc__law_at.nd rfl (Or.inl rfl) (ev_call (o__law_plus T) hr (by decide) (by rfl) (takes_of rfl rfl rfl rfl) (ea_cons (ev_call (o__law_times T) hr (by decide) (by rfl) (takes_of rfl rfl rfl rfl) (ea_cons (ev_var (pv 2)) (ea_cons (ev_var (pv 1)) (ea_nil))) (hn := al_cons (al_cons (al_nil)))) (ea_cons (ev_var (pv 3)) (ea_nil))) (hn := al_cons (al_cons (al_nil))))))) (es_one (es_ret (ev_var (pv 2)))))
theorem o__law_at (T : Txt K mg) : DefOk P w K mg base 3 "_law_at" ["curve", "x"] m__law_at := (d__law_at T).ok (fun _ _ _ _ _ _ us hl => match us, hl with | [_, _], _ => rfl)
def b__law_curves_right : S := sSeq (sTgt (bTp [bNm 1, bNm 2, bNm 3]) (eTup (aCons (eTup (aCons (eTup (aCons (eK (.int 1)) (aCons (eK (.int 4)) (aNil)))) (aCons (eTup (aCons (eOp1 dNeg (eK (.int 1))) (aCons (eK (.int 1)) (aNil)))) (aCons (eTup (aCons (eK (.int 1)) (aCons (eK (.int 1)) (aNil)))) (aNil))))) (aCons (eTup (aCons (eTup (aCons (eOp1 dNeg (eK (.int 1))) (aCons (eK (.int 8)) (aNil)))) (aCons (eTup (aCons (eK (.int 1)) (aCons (eK (.int 1)) (aNil)))) (aNil)))) (aCons (eTup (aCons (eTup (aCons (eK (.int 0)) (aCons (eK (.int 1)) (aNil)))) (aCons (eTup (aCons (eK (.int 1)) (aCons (eK (.int 1)) (aNil)))) (aCons (eTup (aCons (eOp1 dNeg (eK (.int 3))) (aCons (eK (.int 1)) (aNil)))) (aCons (eTup (aCons (eK (.int 2)) (aCons (eK (.int 1)) (aNil)))) (aNil)))))) (aNil)))))) (sSeq (sSet 4 (eLc [15] (iSeq (eTup (aCons (eVar 1) (aCons (eVar 2) (aCons (eVar 3) (aNil)))))) (bNm 15) (Ev.ret true) (eIf (tTr (eVar 0)) (eCall (m__law_soft 8) (aCons (eVar 15) (aNil))) (eVar 15)))) (sSeq (sTgt (bTp [bNm 5, bNm 6, bNm 7]) (eTup (aCons (eTup (aCons (eK (.int 0)) (aCons (eK (.int 1)) (aNil)))) (aCons (eTup (aCons (eK (.int 1)) (aCons (eK (.int 1)) (aNil)))) (aCons (eTup (aCons (eK (.int 1)) (aCons (eK (.int 2)) (aNil)))) (aNil)))))) (sSeq (sSet 8 (eLst (aCons (eTup (aNil)) (aCons (eTup (aCons (eTup (aCons (eK (.int 1)) (aCons (eK (.int 2)) (aNil)))) (aNil))) (aCons (eTup (aCons (eTup (aCons (eK (.int 0)) (aCons (eK (.int 1)) (aNil)))) (aCons (eTup (aCons (eK (.int 1)) (aCons (eK (.int 1)) (aNil)))) (aNil)))) (aCons (eVar 1) (aCons (eTup (aCons (eTup (aCons (eK (.int 0)) (aCons (eK (.int 1)) (aNil)))) (aNil))) (aCons (eTup (aCons (eTup (aCons (eK (.int 1)) (aCons (eK (.int 1)) (aNil)))) (aCons (eTup (aCons (eK (.int 0)) (aCons (eK (.int 1)) (aNil)))) (aNil)))) (aCons (eTup (aCons (eTup (aCons (eK (.int 2)) (aCons (eK (.int 4)) (aNil)))) (aNil))) (aCons (eLst (aCons (eTup (aCons (eK (.int 1)) (aCons (eK (.int 1)) (aNil)))) (aNil))) (aCons (eTup (aCons (eLst (aCons (eK (.int 1)) (aCons (eK (.int 1)) (aNil)))) (aNil))) (aCons (eTup (aCons (eK (.int 1)) (aCons (eK (.int 1)) (aNil)))) (aCons (eK .none) (aCons (eTup (aCons (eTup (aCons (eK (.bool true)) (aCons (eK (.int 1)) (aNil)))) (aNil))) (aCons (eTup (aCons (eTup (aCons (eK (.int 1)) (aCons (eK (.int 0)) (aNil)))) (aNil))) (aCons (eTup (aCons (eTup (aCons (eK (.int 1)) (aCons (eOp1 dNeg (eK (.int 2))) (aNil)))) (aNil))) (aNil))))))))))))))))) (sSeq (sSet 9 (eLst (aCons (eLc [15] (iSeq (eVar 8)) (bNm 15) (Ev.ret true) (eCall m_is_curve (aCons (eVar 15) (aNil)))) (aCons (eCallK m_is_curve [0] aNil (aCons (eVar 1) (aNil))) (aCons (eCall m_curve_at (aCons (eOp2 dIx (eVar 4) (eK (.int 0))) (aCons (eVar 7) (aNil)))) (aCons (eCallK m_curve_at [1, 0] aNil (aCons (eTup (aCons (eK (.int 3)) (aCons (eK (.int 1)) (aNil)))) (aCons (eVar 2) (aNil)))) (aCons (eCall m_curve_at (aCons (eTup (aNil)) (aCons (eVar 7) (aNil)))) (aCons (eCall m_curve_sum (aCons (eOp2 dIx (eVar 4) (eK (.int 0))) (aCons (eOp2 dIx (eVar 4) (eK (.int 1))) (aNil)))) (aNil))))))))) (sSeq (sSet 9 (eOp2 dAdd (eVar 9) (eLst (aCons (eCallK m_curve_sum [1, 0] aNil (aCons (eVar 1) (aCons (eTup (aCons (eTup (aCons (eOp1 dNeg (eK (.int 1))) (aCons (eK (.int 4)) (aNil)))) (aCons (eTup (aCons (eK (.int 1)) (aCons (eK (.int 1)) (aNil)))) (aCons (eTup (aCons (eOp1 dNeg (eK (.int 1))) (aCons (eK (.int 1)) (aNil)))) (aNil))))) (aNil)))) (aCons (eCall m_curve_product (aCons (eOp2 dIx (eVar 4) (eK (.int 1))) (aCons (eOp2 dIx (eVar 4) (eK (.int 1))) (aNil)))) (aCons (eCall m_curve_product (aCons (eTup (aNil)) (aCons (eOp2 dIx (eVar 4) (eK (.int 0))) (aNil)))) (aNil))))))) (sSeq (sSet 10 (eLst (aCons (eOp2 dAdd (eRepL (eLst (aCons (eK (.bool true)) (aNil))) (eK (.int 4))) (eRepL (eLst (aCons (eK (.bool false)) (aNil))) (eK (.int 10)))) (aCons (eK (.bool true)) (aCons (eVar 5) (aCons (eTup (aCons (eK (.int 23)) (aCons (eK (.int 8)) (aNil)))) (aCons (eVar 5) (aCons (eTup (aCons (eTup (aCons (eK (.int 1)) (aCons (eK (.int 8)) (aNil)))) (aCons (eVar 5) (aCons (eVar 6) (aNil))))) (aCons (eTup (aNil)) (aCons (eTup (aCons (eTup (aCons (eK (.int 1)) (aCons (eK (.int 64)) (aNil)))) (aCons (eTup (aCons (eOp1 dNeg (eK (.int 1))) (aCons (eK (.int 4)) (aNil)))) (aCons (eVar 6) (aNil))))) (aCons (eTup (aNil)) (aNil)))))))))))) (sSeq (sSet 9 (eOp2 dAdd (eVar 9) (eLst (aCons (eCall m_curve_slope (aCons (eOp2 dIx (eVar 4) (eK (.int 2))) (aNil))) (aCons (eCallK m_curve_slope [0] aNil (aCons (eTup (aCons (eTup (aCons (eK (.int 5)) (aCons (eK (.int 1)) (aNil)))) (aNil))) (aNil))) (aCons (eCall m_curve_slope (aCons (eTup (aNil)) (aNil))) (aCons (eCall m_curve_mirrored (aCons (eOp2 dIx (eVar 4) (eK (.int 2))) (aNil))) (aCons (eCallK m_curve_mirrored [0] aNil (aCons (eTup (aCons (eVar 5) (aCons (eVar 6) (aNil)))) (aNil))) (aCons (eCall m_curve_mirrored (aCons (eTup (aNil)) (aNil))) (aCons (eCall m_curve_mirrored (aCons (eTup (aCons (eTup (aCons (eK (.int 7)) (aCons (eK (.int 2)) (aNil)))) (aNil))) (aNil))) (aNil))))))))))) (sSeq (sSet 10 (eOp2 dAdd (eVar 10) (eLst (aCons (eTup (aCons (eVar 6) (aCons (eTup (aCons (eOp1 dNeg (eK (.int 6))) (aCons (eK (.int 1)) (aNil)))) (aCons (eTup (aCons (eK (.int 6)) (aCons (eK (.int 1)) (aNil)))) (aNil))))) (aCons (eTup (aNil)) (aCons (eTup (aNil)) (aCons (eTup (aCons (eVar 5) (aCons (eTup (aCons (eOp1 dNeg (eK (.int 1))) (aCons (eK (.int 1)) (aNil)))) (aCons (eTup (aCons (eK (.int 3)) (aCons (eK (.int 1)) (aNil)))) (aCons (eTup (aCons (eOp1 dNeg (eK (.int 2))) (aCons (eK (.int 1)) (aNil)))) (aNil)))))) (aCons (eTup (aCons (eVar 6) (aCons (eTup (aCons (eOp1 dNeg (eK (.int 1))) (aCons (eK (.int 1)) (aNil)))) (aNil)))) (aCons (eTup (aNil)) (aCons (eTup (aCons (eTup (aCons (eK (.int 7)) (aCons (eK (.int 2)) (aNil)))) (aNil))) (aNil))))))))))) (sSeq (sSet 9 (eOp2 dAdd (eVar 9) (eLst (aCons (eCall m_zeros_along (aCons (eOp2 dIx (eVar 4) (eK (.int 0))) (aCons (eVar 5) (aCons (eVar 6) (aNil))))) (aCons (eCall m_zeros_along (aCons (eOp2 dIx (eVar 4) (eK (.int 2))) (aCons (eVar 5) (aCons (eVar 6) (aNil))))) (aCons (eCallK m_zeros_along [2, 1, 0] aNil (aCons (eVar 7) (aCons (eVar 5) (aCons (eVar 3) (aNil))))) (aCons (eCall m_zeros_along (aCons (eVar 3) (aCons (eVar 7) (aCons (eVar 7) (aNil))))) (aNil)))))))) (sSeq (sSet 9 (eOp2 dAdd (eVar 9) (eLst (aCons (eCall m_zeros_along (aCons (eVar 3) (aCons (eTup (aCons (eK (.int 1)) (aCons (eK (.int 4)) (aNil)))) (aCons (eTup (aCons (eK (.int 1)) (aCons (eK (.int 4)) (aNil)))) (aNil))))) (aCons (eCall m_zeros_along (aCons (eVar 3) (aCons (eTup (aCons (eK (.int 1)) (aCons (eK (.int 4)) (aNil)))) (aCons (eTup (aCons (eK (.int 3)) (aCons (eK (.int 4)) (aNil)))) (aNil))))) (aCons (eCall m_zeros_along (aCons (eTup (aCons (eTup (aCons (eK (.int 1)) (aCons (eK (.int 1)) (aNil)))) (aCons (eVar 5) (aCons (eVar 6) (aNil))))) (aCons (eVar 5) (aCons (eVar 6) (aNil))))) (aCons (eCall m_zeros_along (aCons (eTup (aCons (eTup (aCons (eOp1 dNeg (eK (.int 1))) (aCons (eK (.int 2)) (aNil)))) (aCons (eVar 5) (aCons (eVar 6) (aNil))))) (aCons (eVar 5) (aCons (eVar 6) (aNil))))) (aNil)))))))) (sSeq (sSet 10 (eOp2 dAdd (eVar 10) (eLst (aCons (eK (.int 1)) (aCons (eK (.int 3)) (aCons (eK (.int 2)) (aCons (eK (.int 1)) (aCons (eK (.int 0)) (aCons (eK (.int 1)) (aCons (eK (.int 0)) (aCons (eK (.int 1)) (aNil)))))))))))) (sSeq (sSet 9 (eOp2 dAdd (eVar 9) (eLst (aCons (eCall m_never_dips (aCons (eOp2 dIx (eVar 4) (eK (.int 0))) (aCons (eVar 5) (aCons (eVar 6) (aNil))))) (aCons (eCall m_never_dips (aCons (eOp2 dIx (eVar 4) (eK (.int 1))) (aCons (eVar 5) (aCons (eVar 6) (aNil))))) (aCons (eCall m_never_dips (aCons (eVar 2) (aCons (eTup (aCons (eK (.int 1)) (aCons (eK (.int 8)) (aNil)))) (aCons (eVar 6) (aNil))))) (aCons (eCall m_never_dips (aCons (eVar 3) (aCons (eVar 5) (aCons (eVar 7) (aNil))))) (aCons (eCall m_never_dips (aCons (eVar 3) (aCons (eVar 7) (aCons (eVar 6) (aNil))))) (aNil))))))))) (sSeq (sSet 9 (eOp2 dAdd (eVar 9) (eLst (aCons (eCall m_never_dips (aCons (eTup (aNil)) (aCons (eVar 5) (aCons (eVar 6) (aNil))))) (aCons (eCallK m_never_dips [2, 1, 0] aNil (aCons (eVar 5) (aCons (eVar 5) (aCons (eVar 2) (aNil))))) (aCons (eCall m_never_dips (aCons (eTup (aCons (eTup (aCons (eOp1 dNeg (eK (.int 1))) (aCons (eK (.int 2)) (aNil)))) (aCons (eVar 5) (aCons (eVar 6) (aNil))))) (aCons (eTup (aCons (eK (.int 7)) (aCons (eK (.int 10)) (aNil)))) (aCons (eVar 6) (aNil))))) (aCons (eCall m_never_dips (aCons (eTup (aCons (eTup (aCons (eOp1 dNeg (eK (.int 1))) (aCons (eK (.int 2)) (aNil)))) (aCons (eVar 5) (aCons (eVar 6) (aNil))))) (aCons (eTup (aCons (eK (.int 5)) (aCons (eK (.int 7)) (aNil)))) (aCons (eVar 6) (aNil))))) (aNil)))))))) (sSeq (sSet 10 (eOp2 dAdd (eVar 10) (eLst (aCons (eK (.bool true)) (aCons (eK (.bool false)) (aCons (eK (.bool true)) (aCons (eK (.bool true)) (aCons (eK (.bool false)) (aCons (eK (.bool true)) (aCons (eK (.bool false)) (aCons (eK (.bool false)) (aCons (eK (.bool true)) (aNil))))))))))))) (sSeq (sFor (iSeq (eTup (aCons (eTup (aCons (eVar 2) (aCons (eVar 5) (aCons (eVar 6) (aNil))))) (aCons (eTup (aCons (eVar 3) (aCons (eVar 7) (aCons (eVar 6) (aNil))))) (aCons (eTup (aCons (eVar 3) (aCons (eVar 5) (aCons (eVar 6) (aNil))))) (aCons (eTup (aCons (eTup (aCons (eTup (aCons (eOp1 dNeg (eK (.int 1))) (aCons (eK (.int 2)) (aNil)))) (aCons (eVar 5) (aCons (eVar 6) (aNil))))) (aCons (eTup (aCons (eK (.int 7)) (aCons (eK (.int 10)) (aNil)))) (aCons (eVar 6) (aNil))))) (aCons (eTup (aCons (eTup (aCons (eTup (aCons (eOp1 dNeg (eK (.int 1))) (aCons (eK (.int 100)) (aNil)))) (aNil))) (aCons (eVar 5) (aCons (eVar 5) (aNil))))) (aNil)))))))) (bTp [bNm 11, bNm 12, bNm 13]) (sSeq (sSet 14 (eCall m_dip (aCons (eCall (m__law_soft 8) (aCons (eVar 11) (aNil))) (aCons (eVar 12) (aCons (eVar 13) (aNil)))))) (sIf (tOrM (tTr (eCall m__law_less (aCons (eVar 14) (aCons (eVar 12) (aNil))))) (tOrM (tTr (eCall m__law_less (aCons (eVar 13) (aCons (eVar 14) (aNil))))) (tBool (eOp2 dGe (eOp2 dIx (eCall m__law_at (aCons (eVar 11) (aCons (eVar 14) (aNil)))) (eK (.int 0))) (eK (.int 0)))))) (sRet (eK (.bool false))) (sNx)))) (sRet (eCall (m__law_same 8) (aCons (eVar 9) (aCons (eVar 10) (aNil))))))))))))))))))))
def m__law_curves_right : Fn := bodyF 15 b__law_curves_right
theorem d__law_curves_right (T : Txt K mg) : DefS P w K mg base 17 "_law_curves_right" s__law_curves_right ["soft"] m__law_curves_right := by
  obtain ⟨f, fd, hm, Fu⟩ := T.d__law_curves_right
  refine ⟨f, fd, fn_ok (k := 16) (m := 15) (body := b__law_curves_right) Fu sc__law_curves_right rfl rfl fun cdv A outer s H E hr => ?_, hm, Fu⟩
  exact es_cons (es_tgt (js := [1, 2, 3]) (ev_tup (ea_cons (ev_tup (ea_cons (ev_tup (ea_cons (ev_int) (ea_cons (ev_int) (ea_nil)))) (ea_cons (ev_tup (ea_cons (ev_un un_negD (ev_int)) (ea_cons (ev_int) (ea_nil)))) (ea_cons (ev_tup (ea_cons (ev_int) (ea_cons (ev_int) (ea_nil)))) (ea_nil))))) (ea_cons (ev_tup (ea_cons (ev_tup (ea_cons (ev_un un_negD (ev_int)) (ea_cons (ev_int) (ea_nil)))) (ea_cons (ev_tup (ea_cons (ev_int) (ea_cons (ev_int) (ea_nil)))) (ea_nil)))) (ea_cons (ev_tup (ea_cons (ev_tup (ea_cons (ev_int) (ea_cons (ev_int) (ea_nil)))) (ea_cons (ev_tup (ea_cons (ev_int) (ea_cons (ev_int) (ea_nil)))) (ea_cons (ev_tup (ea_cons (ev_un un_negD (ev_int)) (ea_cons (ev_int) (ea_nil)))) (ea_cons (ev_tup (ea_cons (ev_int) (ea_cons (ev_int) (ea_nil)))) (ea_nil)))))) (ea_nil))))) (tb_tp rfl (tbs_cons (tb_nm (pg_name (i := 1) sc__law_curves_right.nd rfl (Or.inl rfl))) (tbs_cons (tb_nm (pg_name (i := 2) sc__law_curves_right.nd rfl (Or.inl rfl))) (tbs_cons (tb_nm (pg_name (i := 3) sc__law_curves_right.nd rfl (Or.inl rfl))) (tbs_nil)))) rfl)) (es_cons (es_setLc (i := 4) (own := [("own", 15)]) rfl sc__law_curves_right.nd rfl rfl (sw_true rfl rfl rfl (by decide +kernel)) (js := [15]) (blkOk_by (own := [("own", 15)]) (N := N__law_curves_right) (sc := defScope s__law_curves_right) (by decide +kernel)) (by decide) (ei_seq (ev_tup (ea_cons (ev_var (pv 1)) (ea_cons (ev_var (pv 2)) (ea_cons (ev_var (pv 3)) (ea_nil)))))) (fun _ _ _ _ _ => tb_nm (pg_name (i := 15) sc__law_curves_right.nd rfl (Or.inl rfl))) (fun _ _ _ _ _ => ets_nil) (fun _ _ _ _ _ => ev_if (et_truth (ev_var (pv 0))) (ev_call (o__law_soft T 8) hr (by decide) (by rfl) takes0 (ea_cons (ev_var (pv 15)) (ea_nil)) (hn := al_cons (al_nil))) (ev_var (pv 15)))) (es_cons (es_tgt (js := [5, 6, 7]) (ev_tup (ea_cons (ev_tup (ea_cons (ev_int) (ea_cons (ev_int) (ea_nil)))) (ea_cons (ev_tup (ea_cons (ev_int) (ea_cons (ev_int) (ea_nil)))) (ea_cons (ev_tup (ea_cons (ev_int) (ea_cons (ev_int) (ea_nil)))) (ea_nil))))) (tb_tp rfl (tbs_cons (tb_nm (pg_name (i := 5) sc__law_curves_right.nd rfl (Or.inl rfl))) (tbs_cons (tb_nm (pg_name (i := 6) sc__law_curves_right.nd rfl (Or.inl rfl))) (tbs_cons (tb_nm (pg_name (i := 7) sc__law_curves_right.nd rfl (Or.inl rfl))) (tbs_nil)))) rfl)) (es_cons (es_set (i := 8) sc__law_curves_right.nd rfl (Or.inl rfl) (ev_lst (ea_cons (ev_tup (ea_nil)) (ea_cons (ev_tup (ea_cons (ev_tup (ea_cons (ev_int) (ea_cons (ev_int) (ea_nil)))) (ea_nil))) (ea_cons (ev_tup (ea_cons (ev_tup (ea_cons (ev_int) (ea_cons (ev_int) (ea_nil)))) (ea_cons (ev_tup (ea_cons (ev_int) (ea_cons (ev_int) (ea_nil)))) (ea_nil)))) (ea_cons (ev_var (pv 1)) (ea_cons (ev_tup (ea_cons (ev_tup (ea_cons (ev_int) (ea_cons (ev_int) (ea_nil)))) (ea_nil))) (ea_cons (ev_tup (ea_cons (ev_tup (ea_cons (ev_int) (ea_cons (ev_int) (ea_nil)))) (ea_cons (ev_tup (ea_cons (ev_int) (ea_cons (ev_int) (ea_nil)))) (ea_nil)))) (ea_cons (ev_tup (ea_cons (ev_tup (ea_cons (ev_int) (ea_cons (ev_int) (ea_nil)))) (ea_nil))) (ea_cons (ev_lst (ea_cons (ev_tup (ea_cons (ev_int) (ea_cons (ev_int) (ea_nil)))) (ea_nil))) (ea_cons (ev_tup (ea_cons (ev_lst (ea_cons (ev_int) (ea_cons (ev_int) (ea_nil)))) (ea_nil))) (ea_cons (ev_tup (ea_cons (ev_int) (ea_cons (ev_int) (ea_nil)))) (ea_cons (ev_non) (ea_cons (ev_tup (ea_cons (ev_tup (ea_cons (ev_bl) (ea_cons (ev_int) (ea_nil)))) (ea_nil))) (ea_cons (ev_tup (ea_cons (ev_tup (ea_cons (ev_int) (ea_cons (ev_int) (ea_nil)))) (ea_nil))) (ea_cons (ev_tup (ea_cons (ev_tup (ea_cons (ev_int) (ea_cons (ev_un un_negD (ev_int)) (ea_nil)))) (ea_nil))) (ea_nil))))))))))))))))) (es_cons (es_set (i := 9) sc__law_curves_right.nd rfl (Or.inl rfl) (ev_lst (ea_cons (ev_lc (own := [("own", 15)]) rfl sc__law_curves_right.nd (js := [15]) (blkOk_by (own := [("own", 15)]) (N := N__law_curves_right) (sc := defScope s__law_curves_right) (by decide +kernel)) (by decide) (ei_seq (ev_var (pv 8))) (fun _ _ _ _ _ => tb_nm (pg_name (i := 15) sc__law_curves_right.nd rfl (Or.inl rfl))) (fun _ _ _ _ _ => ets_nil) (fun _ _ _ _ _ => ev_call (o_is_curve T) hr (by decide) (by rfl) takes0 (ea_cons (ev_var (pv 15)) (ea_nil)) (hn := al_cons (al_nil)))) (ea_cons (ev_callK0 (perm := [0]) (d_is_curve T) hr (by decide) (by rfl) (takes_of rfl rfl rfl rfl) (ek_cons (ev_var (pv 1)) (ek_nil)) (al_cons (al_nil)) (fun xs h => match xs, h with | [_], _ => rfl) (fun _ _ _ _ _ _ ws h => match ws, h with | [_], _ => rfl)) (ea_cons (ev_call (o_curve_at T) hr (by decide) (by rfl) (takes_of rfl rfl rfl rfl) (ea_cons (ev_ix (fun _ _ => rfl) (ev_var (pv 4)) (ev_int)) (ea_cons (ev_var (pv 7)) (ea_nil))) (hn := al_cons (al_cons (al_nil)))) (ea_cons (ev_callK0 (perm := [1, 0]) (d_curve_at T) hr (by decide) (by rfl) (takes_of rfl rfl rfl rfl) (ek_cons (ev_tup (ea_cons (ev_int) (ea_cons (ev_int) (ea_nil)))) (ek_cons (ev_var (pv 2)) (ek_nil))) (al_cons (al_cons (al_nil))) (fun xs h => match xs, h with | [_, _], _ => rfl) (fun _ _ _ _ _ _ ws h => match ws, h with | [_, _], _ => rfl)) (ea_cons (ev_call (o_curve_at T) hr (by decide) (by rfl) (takes_of rfl rfl rfl rfl) (ea_cons (ev_tup (ea_nil)) (ea_cons (ev_var (pv 7)) (ea_nil))) (hn := al_cons (al_cons (al_nil)))) (ea_cons (ev_call (o_curve_sum T) hr (by decide) (by rfl) (takes_of rfl rfl rfl rfl) (ea_cons (ev_ix (fun _ _ => rfl) (ev_var (pv 4)) (ev_int)) (ea_cons (ev_ix (fun _ _ => rfl) (ev_var (pv 4)) (ev_int)) (ea_nil))) (hn := al_cons (al_cons (al_nil)))) (ea_nil))))))))) (es_cons (es_set (i := 9) sc__law_curves_right.nd rfl (Or.inl rfl) (ev_op op_addD (ev_var (pv 9)) (ev_lst (ea_cons (ev_callK0 (perm := [1, 0]) (d_curve_sum T) hr (by decide) (by rfl) (takes_of rfl rfl rfl rfl) (ek_cons (ev_var (pv 1)) (ek_cons (ev_tup (ea_cons (ev_tup (ea_cons (ev_un un_negD (ev_int)) (ea_cons (ev_int) (ea_nil)))) (ea_cons (ev_tup (ea_cons (ev_int) (ea_cons (ev_int) (ea_nil)))) (ea_cons (ev_tup (ea_cons (ev_un un_negD (ev_int)) (ea_cons (ev_int) (ea_nil)))) (ea_nil))))) (ek_nil))) (al_cons (al_cons (al_nil))) (fun xs h => match xs, h with | [_, _], _ => rfl) (fun _ _ _ _ _ _ ws h => match ws, h with | [_, _], _ => rfl)) (ea_cons (ev_call (o_curve_product T) hr (by decide) (by rfl) (takes_of rfl rfl rfl rfl) (ea_cons (ev_ix (fun _ _ => rfl) (ev_var (pv 4)) (ev_int)) (ea_cons (ev_ix (fun _ _ => rfl) (ev_var (pv 4)) (ev_int)) (ea_nil))) (hn := al_cons (al_cons (al_nil)))) (ea_cons (ev_call (o_curve_product T) hr (by decide) (by rfl) (takes_of rfl rfl rfl rfl) (ea_cons (ev_tup (ea_nil)) (ea_cons (ev_ix (fun _ _ => rfl) (ev_var (pv 4)) (ev_int)) (ea_nil))) (hn := al_cons (al_cons (al_nil)))) (ea_nil))))))) (es_cons (es_set (i := 10) sc__law_curves_right.nd rfl (Or.inl rfl) (ev_lst (ea_cons (ev_op op_addD (ev_repL (ev_lst (ea_cons (ev_bl) (ea_nil))) (ev_int)) (ev_repL (ev_lst (ea_cons (ev_bl) (ea_nil))) (ev_int))) (ea_cons (ev_bl) (ea_cons (ev_var (pv 5)) (ea_cons (ev_tup (ea_cons (ev_int) (ea_cons (ev_int) (ea_nil)))) (ea_cons (ev_var (pv 5)) (ea_cons (ev_tup (ea_cons (ev_tup (ea_cons (ev_int) (ea_cons (ev_int) (ea_nil)))) (ea_cons (ev_var (pv 5)) (ea_cons (ev_var (pv 6)) (ea_nil))))) (ea_cons (ev_tup (ea_nil)) (ea_cons (ev_tup (ea_cons (ev_tup (ea_cons (ev_int) (ea_cons (ev_int) (ea_nil)))) (ea_cons (ev_tup (ea_cons (ev_un un_negD (ev_int)) (ea_cons (ev_int) (ea_nil)))) (ea_cons (ev_var (pv 6)) (ea_nil))))) (ea_cons (ev_tup (ea_nil)) (ea_nil)))))))))))) (es_cons (es_set (i := 9) sc__law_curves_right.nd rfl (Or.inl rfl) (ev_op op_addD (ev_var (pv 9)) (ev_lst (ea_cons (ev_call (o_curve_slope T) hr (by decide) (by rfl) (takes_of rfl rfl rfl rfl) (ea_cons (ev_ix (fun _ _ => rfl) (ev_var (pv 4)) (ev_int)) (ea_nil)) (hn := al_cons (al_nil))) (ea_cons (ev_callK0 (perm := [0]) (d_curve_slope T) hr (by decide) (by rfl) (takes_of rfl rfl rfl rfl) (ek_cons (ev_tup (ea_cons (ev_tup (ea_cons (ev_int) (ea_cons (ev_int) (ea_nil)))) (ea_nil))) (ek_nil)) (al_cons (al_nil)) (fun xs h => match xs, h with | [_], _ => rfl) (fun _ _ _ _ _ _ ws h => match ws, h with | [_], _ => rfl)) (ea_cons (ev_call (o_curve_slope T) hr (by decide) (by rfl) (takes_of rfl rfl rfl rfl) (ea_cons (ev_tup (ea_nil)) (ea_nil)) (hn := al_cons (al_nil))) (ea_cons (ev_call (o_curve_mirrored T) hr (by decide) (by rfl) (takes_of rfl rfl rfl rfl) (ea_cons (ev_ix (fun _ _ => rfl) (ev_var (pv 4)) (ev_int)) (ea_nil)) (hn := al_cons (al_nil))) (ea_cons (ev_callK0 (perm := [0]) (d_curve_mirrored T) hr (by decide) (by rfl) (takes_of rfl rfl rfl rfl) (ek_cons (ev_tup (ea_cons (ev_var (pv 5)) (ea_cons (ev_var (pv 6)) (ea_nil)))) (ek_nil)) (al_cons (al_nil)) (fun xs h => match xs, h with | [_], _ => rfl) (fun _ _ _ _ _ _ ws h => match ws, h with | [_], _ => rfl)) (ea_cons (ev_call (o_curve_mirrored T) hr (by decide) (by rfl) (takes_of rfl rfl rfl rfl) (ea_cons (ev_tup (ea_nil)) (ea_nil)) (hn := al_cons (al_nil))) (ea_cons (ev_call (o_curve_mirrored T) hr (by decide) (by rfl) (takes_of rfl rfl rfl rfl) (ea_cons (ev_tup (ea_cons (ev_tup (ea_cons (ev_int) (ea_cons (ev_int) (ea_nil)))) (ea_nil))) (ea_nil)) (hn := al_cons (al_nil))) (ea_nil))))))))))) (es_cons (es_set (i := 10) sc__law_curves_right.nd rfl (Or.inl rfl) (ev_op op_addD (ev_var (pv 10)) (ev_lst (ea_cons (ev_tup (ea_cons (ev_var (pv 6)) (ea_cons (ev_tup (ea_cons (ev_un un_negD (ev_int)) (ea_cons (ev_int) (ea_nil)))) (ea_cons (ev_tup (ea_cons (ev_int) (ea_cons (ev_int) (ea_nil)))) (ea_nil))))) (ea_cons (ev_tup (ea_nil)) (ea_cons (ev_tup (ea_nil)) (ea_cons (ev_tup (ea_cons (ev_var (pv 5)) (ea_cons (ev_tup (ea_cons (ev_un un_negD (ev_int)) (ea_cons (ev_int) (ea_nil)))) (ea_cons (ev_tup (ea_cons (ev_int) (ea_cons (ev_int) (ea_nil)))) (ea_cons (ev_tup (ea_cons (ev_un un_negD (ev_int)) (ea_cons (ev_int) (ea_nil)))) (ea_nil)))))) (ea_cons (ev_tup (ea_cons (ev_var (pv 6)) (ea_cons (ev_tup (ea_cons (ev_un un_negD (ev_int)) (ea_cons (ev_int) (ea_nil)))) (ea_nil)))) (ea_cons (ev_tup (ea_nil)) (ea_cons (ev_tup (ea_cons (ev_tup (ea_cons (ev_int) (ea_cons (ev_int) (ea_nil)))) (ea_nil))) (ea_nil))))))))))) (es_cons (es_set (i := 9) sc__law_curves_right.nd rfl (Or.inl rfl) (ev_op op_addD (ev_var (pv 9)) (ev_lst (ea_cons (ev_call (o_zeros_along T) hr (by decide) (by rfl) (takes_of rfl rfl rfl rfl) (ea_cons (ev_ix (fun _ _ => rfl) (ev_var (pv 4)) (ev_int)) (ea_cons (ev_var (pv 5)) (ea_cons (ev_var (pv 6)) (ea_nil)))) (hn := al_cons (al_cons (al_cons (al_nil))))) (ea_cons (ev_call (o_zeros_along T) hr (by decide) (by rfl) (takes_of rfl rfl rfl rfl) (ea_cons (ev_ix (fun _ _ => rfl) (ev_var (pv 4)) (ev_int)) (ea_cons (ev_var (pv 5)) (ea_cons (ev_var (pv 6)) (ea_nil)))) (hn := al_cons (al_cons (al_cons (al_nil))))) (ea_cons (ev_callK0 (perm := [2, 1, 0]) (d_zeros_along T) hr (by decide) (by rfl) (takes_of rfl rfl rfl rfl) (ek_cons (ev_var (pv 7)) (ek_cons (ev_var (pv 5)) (ek_cons (ev_var (pv 3)) (ek_nil)))) (al_cons (al_cons (al_cons (al_nil)))) (fun xs h => match xs, h with | [_, _, _], _ => rfl) (fun _ _ _ _ _ _ ws h => match ws, h with | [_, _, _], _ => rfl)) (ea_cons (ev_call (o_zeros_along T) hr (by decide) (by rfl) (takes_of rfl rfl rfl rfl) (ea_cons (ev_var (pv 3)) (ea_cons (ev_var (pv 7)) (ea_cons (ev_var (pv 7)) (ea_nil)))) (hn := al_cons (al_cons (al_cons (al_nil))))) (ea_nil)))))))) (es_cons (es_set (i := 9) sc__law_curves_right.nd rfl (Or.inl rfl) (ev_op op_addD (ev_var (pv 9)) (ev_lst (ea_cons (ev_call (o_zeros_along T) hr (by decide) (by rfl) (takes_of rfl rfl rfl rfl) (ea_cons (ev_var (pv 3)) (ea_cons (ev_tup (ea_cons (ev_int) (ea_cons (ev_int) (ea_nil)))) (ea_cons (ev_tup (ea_cons (ev_int) (ea_cons (ev_int) (ea_nil)))) (ea_nil)))) (hn := al_cons (al_cons (al_cons (al_nil))))) (ea_cons (ev_call (o_zeros_along T) hr (by decide) (by rfl) (takes_of rfl rfl rfl rfl) (ea_cons (ev_var (pv 3)) (ea_cons (ev_tup (ea_cons (ev_int) (ea_cons (ev_int) (ea_nil)))) (ea_cons (ev_tup (ea_cons (ev_int) (ea_cons (ev_int) (ea_nil)))) (ea_nil)))) (hn := al_cons (al_cons (al_cons (al_nil))))) (ea_cons (ev_call (o_zeros_along T) hr (by decide) (by rfl) (takes_of rfl rfl rfl rfl) (ea_cons (ev_tup (ea_cons (ev_tup (ea_cons (ev_int) (ea_cons (ev_int) (ea_nil)))) (ea_cons (ev_var (pv 5)) (ea_cons (ev_var (pv 6)) (ea_nil))))) (ea_cons (ev_var (pv 5)) (ea_cons (ev_var (pv 6)) (ea_nil)))) (hn := al_cons (al_cons (al_cons (al_nil))))) (ea_cons (ev_call (o_zeros_along T) hr (by decide) (by rfl) (takes_of rfl rfl rfl rfl) (ea_cons (ev_tup (ea_cons (ev_tup (ea_cons (ev_un un_negD (ev_int)) (ea_cons (ev_int) (ea_nil)))) (ea_cons (ev_var (pv 5)) (ea_cons (ev_var (pv 6)) (ea_nil))))) (ea_cons (ev_var (pv 5)) (ea_cons (ev_var (pv 6)) (ea_nil)))) (hn := al_cons (al_cons (al_cons (al_nil))))) (ea_nil)))))))) (es_cons (es_set (i := 10) sc__law_curves_right.nd rfl (Or.inl rfl) (ev_op op_addD (ev_var (pv 10)) (ev_lst (ea_cons (ev_int) (ea_cons (ev_int) (ea_cons (ev_int) (ea_cons (ev_int) (ea_cons (ev_int) (ea_cons (ev_int) (ea_cons (ev_int) (ea_cons (ev_int) (ea_nil)))))))))))) (es_cons (es_set (i := 9) sc__law_curves_right.nd rfl (Or.inl rfl) (ev_op op_addD (ev_var (pv 9)) (ev_lst (ea_cons (ev_call (o_never_dips T) hr (by decide) (by rfl) (takes_of rfl rfl rfl rfl) (ea_cons (ev_ix (fun _ _ => rfl) (ev_var (pv 4)) (ev_int)) (ea_cons (ev_var (pv 5)) (ea_cons (ev_var (pv 6)) (ea_nil)))) (hn := al_cons (al_cons (al_cons (al_nil))))) (ea_cons (ev_call (o_never_dips T) hr (by decide) (by rfl) (takes_of rfl rfl rfl rfl) (ea_cons (ev_ix (fun _ _ => rfl) (ev_var (pv 4)) (ev_int)) (ea_cons (ev_var (pv 5)) (ea_cons (ev_var (pv 6)) (ea_nil)))) (hn := al_cons (al_cons (al_cons (al_nil))))) (ea_cons (ev_call (o_never_dips T) hr (by decide) (by rfl) (takes_of rfl rfl rfl rfl) (ea_cons (ev_var (pv 2)) (ea_cons (ev_tup (ea_cons (ev_int) (ea_cons (ev_int) (ea_nil)))) (ea_cons (ev_var (pv 6)) (ea_nil)))) (hn := al_cons (al_cons (al_cons (al_nil))))) (ea_cons (ev_call (o_never_dips T) hr (by decide) (by rfl) (takes_of rfl rfl rfl rfl) (ea_cons (ev_var (pv 3)) (ea_cons (ev_var (pv 5)) (ea_cons (ev_var (pv 7)) (ea_nil)))) (hn := al_cons (al_cons (al_cons (al_nil))))) (ea_cons (ev_call (o_never_dips T) hr (by decide) (by rfl) (takes_of rfl rfl rfl rfl) (ea_cons (ev_var (pv 3)) (ea_cons (ev_var (pv 7)) (ea_cons (ev_var (pv 6)) (ea_nil)))) (hn := al_cons (al_cons (al_cons (al_nil))))) (ea_nil))))))))) (es_cons (es_set (i := 9) sc__law_curves_right.nd rfl (Or.inl rfl) (ev_op op_addD (ev_var (pv 9)) (ev_lst (ea_cons (ev_call (o_never_dips T) hr (by decide) (by rfl) (takes_of rfl rfl rfl rfl) (ea_cons (ev_tup (ea_nil)) (ea_cons (ev_var (pv 5)) (ea_cons (ev_var (pv 6)) (ea_nil)))) (hn := al_cons (al_cons (al_cons (al_nil))))) (ea_cons (ev_callK0 (perm := [2, 1, 0]) (d_never_dips T) hr (by decide) (by rfl) (takes_of rfl rfl rfl rfl) (ek_cons (ev_var (pv 5)) (ek_cons (ev_var (pv 5)) (ek_cons (ev_var (pv 2)) (ek_nil)))) (al_cons (al_cons (al_cons (al_nil)))) (fun xs h => match xs, h with | [_, _, _], _ => rfl) (fun _ _ _ _ _ _ ws h => match ws, h with | [_, _, _], _ => rfl)) (ea_cons (ev_call (o_never_dips T) hr (by decide) (by rfl) (takes_of rfl rfl rfl rfl) (ea_cons (ev_tup (ea_cons (ev_tup (ea_cons (ev_un un_negD (ev_int)) (ea_cons (ev_int) (ea_nil)))) (ea_cons (ev_var (pv 5)) (ea_cons (ev_var (pv 6)) (ea_nil))))) (ea_cons (ev_tup (ea_cons (ev_int) (ea_cons (ev_int) (ea_nil)))) (ea_cons (ev_var (pv 6)) (ea_nil)))) (hn := al_cons (al_cons (al_cons (al_nil))))) (ea_cons (ev_call (o_never_dips T) hr (by decide) (by rfl) (takes_of rfl rfl rfl rfl) (ea_cons (ev_tup (ea_cons (ev_tup (ea_cons (ev_un un_negD (ev_int)) (ea_cons (ev_int) (ea_nil)))) (ea_cons (ev_var (pv 5)) (ea_cons (ev_var (pv 6)) (ea_nil))))) (ea_cons (ev_tup (ea_cons (ev_int) (ea_cons (ev_int) (ea_nil)))) (ea_cons (ev_var (pv 6)) (ea_nil)))) (hn := al_cons (al_cons (al_cons (al_nil))))) (ea_nil)))))))) (es_cons (es_set (i := 10) sc__law_curves_right.nd rfl (Or.inl rfl) (ev_op op_addD (ev_var (pv 10)) (ev_lst (ea_cons (ev_bl) (ea_cons (ev_bl) (ea_cons (ev_bl) (ea_cons (ev_bl) (ea_cons (ev_bl) (ea_cons (ev_bl) (ea_cons (ev_bl) (ea_cons (ev_bl) (ea_cons (ev_bl) (ea_nil))))))))))))) (es_cons (es_for (js := [11, 12, 13]) (passes_of rfl) rfl (ei_seq (ev_tup (ea_cons (ev_tup (ea_cons (ev_var (pv 2)) (ea_cons (ev_var (pv 5)) (ea_cons (ev_var (pv 6)) (ea_nil))))) (ea_cons (ev_tup (ea_cons (ev_var (pv 3)) (ea_cons (ev_var (pv 7)) (ea_cons (ev_var (pv 6)) (ea_nil))))) (ea_cons (ev_tup (ea_cons (ev_var (pv 3)) (ea_cons (ev_var (pv 5)) (ea_cons (ev_var (pv 6)) (ea_nil))))) (ea_cons (ev_tup (ea_cons (ev_tup (ea_cons (ev_tup (ea_cons (ev_un un_negD (ev_int)) (ea_cons (ev_int) (ea_nil)))) (ea_cons (ev_var (pv 5)) (ea_cons (ev_var (pv 6)) (ea_nil))))) (ea_cons (ev_tup (ea_cons (ev_int) (ea_cons (ev_int) (ea_nil)))) (ea_cons (ev_var (pv 6)) (ea_nil))))) (ea_cons (ev_tup (ea_cons (ev_tup (ea_cons (ev_tup (ea_cons (ev_un un_negD (ev_int)) (ea_cons (ev_int) (ea_nil)))) (ea_nil))) (ea_cons (ev_var (pv 5)) (ea_cons (ev_var (pv 5)) (ea_nil))))) (ea_nil)))))))) (tb_tp rfl (tbs_cons (tb_nm (pg_name (i := 11) sc__law_curves_right.nd rfl (Or.inl rfl))) (tbs_cons (tb_nm (pg_name (i := 12) sc__law_curves_right.nd rfl (Or.inl rfl))) (tbs_cons (tb_nm (pg_name (i := 13) sc__law_curves_right.nd rfl (Or.inl rfl))) (tbs_nil)))) rfl) (es_cons (es_set (i := 14) sc__law_curves_right.nd rfl (Or.inl rfl) (ev_call (o_dip T) hr (by decide) (by rfl) (takes_of rfl rfl rfl rfl) (ea_cons (ev_call (o__law_soft T 8) hr (by decide) (by rfl) (takes_of rfl rfl rfl rfl) (ea_cons (ev_var (pv 11)) (ea_nil)) (hn := al_cons (al_nil))) (ea_cons (ev_var (pv 12)) (ea_cons (ev_var (pv 13)) (ea_nil)))) (hn := al_cons (al_cons (al_cons (al_nil)))))) (es_one (es_if (PW.pt (ew_or (et_truth (ev_call (o__law_less T) hr (by decide) (by rfl) (takes_of rfl rfl rfl rfl) (ea_cons (ev_var (pv 14)) (ea_cons (ev_var (pv 12)) (ea_nil))) (hn := al_cons (al_cons (al_nil))))) (ew_or (et_truth (ev_call (o__law_less T) hr (by decide) (by rfl) (takes_of rfl rfl rfl rfl) (ea_cons (ev_var (pv 13)) (ea_cons (ev_var (pv 14)) (ea_nil))) (hn := al_cons (al_cons (al_nil))))) (ew_or1 (et_cmp (op_geD (hu64 hr)) (by rfl) (ev_ix (fun _ _ => rfl) (ev_call (o__law_at T) hr (by decide) (by rfl) (takes_of rfl rfl rfl rfl) (ea_cons (ev_var (pv 11)) (ea_cons (ev_var (pv 14)) (ea_nil))) (hn := al_cons (al_cons (al_nil)))) (ev_int)) (ev_int)))))) (es_one (es_ret (ev_bl))) (es_nil))))) (es_one (es_ret (ev_call (o__law_same T 8) hr (by decide) (by rfl) (takes_of rfl rfl rfl rfl) (ea_cons (ev_var (pv 9)) (ea_cons (ev_var (pv 10)) (ea_nil))) (hn := al_cons (al_cons (al_nil)))))))))))))))))))))
theorem o__law_curves_right (T : Txt K mg) : DefOk P w K mg base 17 "_law_curves_right" ["soft"] m__law_curves_right := (d__law_curves_right T).ok (fun _ _ _ _ _ _ us hl => match us, hl with | [_], _ => rfl)
def b_deciding_sets : S := sSeq (sSet 2 (eLc [3] (iSeq (eCall m_folk_in (aCons (eVar 0) (aNil)))) (bNm 3) (tBool (eOp2 dNe (eVar 3) (eVar 1))) (eVar 3))) (sRet (eLc [3] (iSeq (eCall m_all_sets (aCons (eVar 2) (aNil)))) (bNm 3) (tAndM (tNotM (tTr (eCall m_up_in (aCons (eVar 0) (aCons (eVar 3) (aNil)))))) (tTr (eCall m_up_in (aCons (eVar 0) (aCons (eOp2 dAdd (eVar 3) (eTup (aCons (eVar 1) (aNil)))) (aNil)))))) (eVar 3)))
def m_deciding_sets : Fn := bodyF 2 b_deciding_sets
theorem d_deciding_sets (T : Txt K mg) : DefS P w K mg base 3 "deciding_sets" s_deciding_sets ["lots", "keeper"] m_deciding_sets := by
  obtain ⟨f, fd, hm, Fu⟩ := T.d_deciding_sets
  refine ⟨f, fd, fn_ok (k := 2) (m := 2) (body := b_deciding_sets) Fu sc_deciding_sets rfl rfl fun cdv A outer s H E hr => ?_, hm, Fu⟩
  exact es_cons (es_setLc (i := 2) (own := [("own", 3)]) rfl sc_deciding_sets.nd rfl rfl (sw_true rfl rfl rfl (by decide +kernel)) (js := [3]) (blkOk_by (own := [("own", 3)]) (N := N_deciding_sets) (sc := defScope s_deciding_sets) (by decide +kernel)) (by decide) (ei_seq (ev_call (o_folk_in T) hr (by decide) (by rfl) (takes_of rfl rfl rfl rfl) (ea_cons (ev_var (pv 0)) (ea_nil)) (hn := al_cons (al_nil)))) (fun _ _ _ _ _ => tb_nm (pg_name (i := 3) sc_deciding_sets.nd rfl (Or.inl rfl))) (fun _ _ _ _ _ => ets_one (et_cmp (op_neDD (hu64 hr)) (by rfl) (ev_var (pv 3)) (ev_var (pv 1)))) (fun _ _ _ _ _ => ev_var (pv 3))) (es_one (es_ret (ev_lc (own := [("own", 3)]) rfl sc_deciding_sets.nd (js := [3]) (blkOk_by (own := [("own", 3)]) (N := N_deciding_sets) (sc := defScope s_deciding_sets) (by decide +kernel)) (by decide) (ei_seq (ev_call (o_all_sets T) hr (by decide) (by rfl) (takes_of rfl rfl rfl rfl) (ea_cons (ev_var (pv 2)) (ea_nil)) (hn := al_cons (al_nil)))) (fun _ _ _ _ _ => tb_nm (pg_name (i := 3) sc_deciding_sets.nd rfl (Or.inl rfl))) (fun _ _ _ _ _ => ets_one (PW.pt (ew_and (et_not (et_truth (ev_call (o_up_in T) hr (by decide) (by rfl) takes0 (ea_cons (ev_var (pv 0)) (ea_cons (ev_var (pv 3)) (ea_nil))) (hn := al_cons (al_cons (al_nil)))))) (ew_and1 (et_truth (ev_call (o_up_in T) hr (by decide) (by rfl) takes0 (ea_cons (ev_var (pv 0)) (ea_cons (ev_op op_addD (ev_var (pv 3)) (ev_tup (ea_cons (ev_var (pv 1)) (ea_nil)))) (ea_nil))) (hn := al_cons (al_cons (al_nil))))))))) (fun _ _ _ _ _ => ev_var (pv 3)))))
theorem o_deciding_sets (T : Txt K mg) : DefOk P w K mg base 3 "deciding_sets" ["lots", "keeper"] m_deciding_sets := (d_deciding_sets T).ok (fun _ _ _ _ _ _ us hl => match us, hl with | [_, _], _ => rfl)
def b_deciding_curve : S := sSeq (sSet 2 (eCall (m_tuple_of 8) (aCons (eVar 0) (aNil)))) (sSeq (sSet 3 (eLc [4] (iSeq (eCall m_folk_in (aCons (eVar 2) (aNil)))) (bNm 4) (tBool (eOp2 dNe (eVar 4) (eVar 1))) (eVar 4))) (sRet (eCall m_spread_curve (aCons (eCall m_counts_by_size (aCons (eCall m_deciding_sets (aCons (eVar 2) (aCons (eVar 1) (aNil)))) (aCons (eB (on1 dLen) (aCons (eVar 3) (aNil))) (aNil)))) (aNil)))))
def m_deciding_curve : Fn := bodyF 3 b_deciding_curve
theorem d_deciding_curve (T : Txt K mg) : DefS P w K mg base 13 "deciding_curve" s_deciding_curve ["roster", "keeper"] m_deciding_curve := by
  obtain ⟨f, fd, hm, Fu⟩ := T.d_deciding_curve
  refine ⟨f, fd, fn_ok (k := 12) (m := 3) (body := b_deciding_curve) Fu sc_deciding_curve rfl rfl fun cdv A outer s H E hr => ?_, hm, Fu⟩
  exact es_cons (es_set (i := 2) sc_deciding_curve.nd rfl (Or.inl rfl) (ev_call (o_tuple_of T 8) hr (by decide) (by rfl) (takes_of rfl rfl rfl rfl) (ea_cons (ev_var (pv 0)) (ea_nil)) (hn := al_cons (al_nil)))) (es_cons (es_setLc (i := 3) (own := [("own", 4)]) rfl sc_deciding_curve.nd rfl rfl (sw_true rfl rfl rfl (by decide +kernel)) (js := [4]) (blkOk_by (own := [("own", 4)]) (N := N_deciding_curve) (sc := defScope s_deciding_curve) (by decide +kernel)) (by decide) (ei_seq (ev_call (o_folk_in T) hr (by decide) (by rfl) (takes_of rfl rfl rfl rfl) (ea_cons (ev_var (pv 2)) (ea_nil)) (hn := al_cons (al_nil)))) (fun _ _ _ _ _ => tb_nm (pg_name (i := 4) sc_deciding_curve.nd rfl (Or.inl rfl))) (fun _ _ _ _ _ => ets_one (et_cmp (op_neDD (hu64 hr)) (by rfl) (ev_var (pv 4)) (ev_var (pv 1)))) (fun _ _ _ _ _ => ev_var (pv 4))) (es_one (es_ret (ev_call (o_spread_curve T) hr (by decide) (by rfl) (takes_of rfl rfl rfl rfl) (ea_cons (ev_call (o_counts_by_size T) hr (by decide) (by rfl) (takes_of rfl rfl rfl rfl) (ea_cons (ev_call (o_deciding_sets T) hr (by decide) (by rfl) (takes_of rfl rfl rfl rfl) (ea_cons (ev_var (pv 2)) (ea_cons (ev_var (pv 1)) (ea_nil))) (hn := al_cons (al_cons (al_nil)))) (ea_cons (ev_B cr_lenD (by rfl) T.b_len PySem.boot_len (ea_cons (ev_var (pv 3)) (ea_nil))) (ea_nil))) (hn := al_cons (al_cons (al_nil)))) (ea_nil)) (hn := al_cons (al_nil))))))
theorem o_deciding_curve (T : Txt K mg) : DefOk P w K mg base 13 "deciding_curve" ["roster", "keeper"] m_deciding_curve := (d_deciding_curve T).ok (fun _ _ _ _ _ _ us hl => match us, hl with | [_, _], _ => rfl)
def b_deciding_chance : S := sSeq (sSet 3 (eCall (m_tuple_of 8) (aCons (eVar 0) (aNil)))) (sSeq (sSet 4 (eLc [5] (iSeq (eCall m_folk_in (aCons (eVar 3) (aNil)))) (bNm 5) (tBool (eOp2 dNe (eVar 5) (eVar 1))) (eVar 5))) (sRet (eCall m_chance_of_sets (aCons (eVar 4) (aCons (eCall m_deciding_sets (aCons (eVar 3) (aCons (eVar 1) (aNil)))) (aCons (eVar 2) (aNil)))))))
def m_deciding_chance : Fn := bodyF 3 b_deciding_chance
theorem d_deciding_chance (T : Txt K mg) : DefS P w K mg base 12 "deciding_chance" s_deciding_chance ["roster", "keeper", "chances"] m_deciding_chance := by
  obtain ⟨f, fd, hm, Fu⟩ := T.d_deciding_chance
  refine ⟨f, fd, fn_ok (k := 11) (m := 3) (body := b_deciding_chance) Fu sc_deciding_chance rfl rfl fun cdv A outer s H E hr => ?_, hm, Fu⟩
  exact es_cons (es_set (i := 3) sc_deciding_chance.nd rfl (Or.inl rfl) (ev_call (o_tuple_of T 8) hr (by decide) (by rfl) (takes_of rfl rfl rfl rfl) (ea_cons (ev_var (pv 0)) (ea_nil)) (hn := al_cons (al_nil)))) (es_cons (es_setLc (i := 4) (own := [("own", 5)]) rfl sc_deciding_chance.nd rfl rfl (sw_true rfl rfl rfl (by decide +kernel)) (js := [5]) (blkOk_by (own := [("own", 5)]) (N := N_deciding_chance) (sc := defScope s_deciding_chance) (by decide +kernel)) (by decide) (ei_seq (ev_call (o_folk_in T) hr (by decide) (by rfl) (takes_of rfl rfl rfl rfl) (ea_cons (ev_var (pv 3)) (ea_nil)) (hn := al_cons (al_nil)))) (fun _ _ _ _ _ => tb_nm (pg_name (i := 5) sc_deciding_chance.nd rfl (Or.inl rfl))) (fun _ _ _ _ _ => ets_one (et_cmp (op_neDD (hu64 hr)) (by rfl) (ev_var (pv 5)) (ev_var (pv 1)))) (fun _ _ _ _ _ => ev_var (pv 5))) (es_one (es_ret (ev_call (o_chance_of_sets T) hr (by decide) (by rfl) (takes_of rfl rfl rfl rfl) (ea_cons (ev_var (pv 4)) (ea_cons (ev_call (o_deciding_sets T) hr (by decide) (by rfl) (takes_of rfl rfl rfl rfl) (ea_cons (ev_var (pv 3)) (ea_cons (ev_var (pv 1)) (ea_nil))) (hn := al_cons (al_cons (al_nil)))) (ea_cons (ev_var (pv 2)) (ea_nil)))) (hn := al_cons (al_cons (al_cons (al_nil))))))))
theorem o_deciding_chance (T : Txt K mg) : DefOk P w K mg base 12 "deciding_chance" ["roster", "keeper", "chances"] m_deciding_chance := (d_deciding_chance T).ok (fun _ _ _ _ _ _ us hl => match us, hl with | [_, _, _], _ => rfl)
def b_more_than_half : S := sSeq (sSet 1 (eCall (m_tuple_of 8) (aCons (eVar 0) (aNil)))) (sRet (eB (on1 dTuple) (aCons (eLc [2] (iSeq (eCall m_all_sets (aCons (eVar 1) (aNil)))) (bNm 2) (tBool (eOp2 dEq (eB (on1 dLen) (aCons (eVar 2) (aNil))) (eOp2 dAdd (eOp2 dDiv (eB (on1 dLen) (aCons (eVar 1) (aNil))) (eK (.int 2))) (eK (.int 1))))) (eVar 2)) (aNil))))
def m_more_than_half : Fn := bodyF 2 b_more_than_half
theorem d_more_than_half (T : Txt K mg) : DefS P w K mg base 10 "more_than_half" s_more_than_half ["keepers"] m_more_than_half := by
  obtain ⟨f, fd, hm, Fu⟩ := T.d_more_than_half
  refine ⟨f, fd, fn_ok (k := 9) (m := 2) (body := b_more_than_half) Fu sc_more_than_half rfl rfl fun cdv A outer s H E hr => ?_, hm, Fu⟩
  exact es_cons (es_set (i := 1) sc_more_than_half.nd rfl (Or.inr rfl) (ev_call (o_tuple_of T 8) hr (by decide) (by rfl) (takes_of rfl rfl rfl rfl) (ea_cons (ev_var (pv 0)) (ea_nil)) (hn := al_cons (al_nil)))) (es_one (es_ret (ev_Ty cr_tupleD (by rfl) T.b_tuple PyProof.Rows.boot_tuple (ea_cons (ev_lc (own := [("own", 2)]) rfl sc_more_than_half.nd (js := [2]) (blkOk_by (own := [("own", 2)]) (N := N_more_than_half) (sc := defScope s_more_than_half) (by decide +kernel)) (by decide) (ei_seq (ev_call (o_all_sets T) hr (by decide) (by rfl) (takes_of rfl rfl rfl rfl) (ea_cons (ev_var (pv 1)) (ea_nil)) (hn := al_cons (al_nil)))) (fun _ _ _ _ _ => tb_nm (pg_name (i := 2) sc_more_than_half.nd rfl (Or.inl rfl))) (fun _ _ _ _ _ => ets_one (et_cmp (op_eqDD (hu64 hr)) (by rfl) (ev_B cr_lenD (by rfl) T.b_len PySem.boot_len (ea_cons (ev_var (pv 2)) (ea_nil))) (ev_op op_addD (ev_op op_divD (ev_B cr_lenD (by rfl) T.b_len PySem.boot_len (ea_cons (ev_var (pv 1)) (ea_nil))) (ev_int)) (ev_int)))) (fun _ _ _ _ _ => ev_var (pv 2))) (ea_nil)))))
theorem o_more_than_half (T : Txt K mg) : DefOk P w K mg base 10 "more_than_half" ["keepers"] m_more_than_half := (d_more_than_half T).ok (fun _ _ _ _ _ _ us hl => match us, hl with | [_], _ => rfl)
def b__law_rosters_right : S := sSeq (sTgt (bTp [bNm 1, bNm 2, bNm 3]) (eTup (aCons (eTup (aCons (eTup (aCons (eK (.int 0)) (aCons (eK (.int 1)) (aNil)))) (aCons (eTup (aCons (eK (.int 0)) (aCons (eK (.int 2)) (aNil)))) (aCons (eTup (aCons (eK (.int 1)) (aCons (eK (.int 2)) (aNil)))) (aNil))))) (aCons (eTup (aCons (eTup (aCons (eK (.int 0)) (aCons (eK (.int 1)) (aNil)))) (aCons (eTup (aCons (eK (.int 2)) (aCons (eK (.int 3)) (aNil)))) (aNil)))) (aCons (eTup (aCons (eTup (aCons (eK (.int 0)) (aNil))) (aNil))) (aNil)))))) (sSeq (sSet 4 (eTup (aCons (eTup (aCons (eK (.int 1)) (aCons (eK (.int 2)) (aNil)))) (aCons (eTup (aCons (eK (.int 2)) (aCons (eK (.int 3)) (aNil)))) (aCons (eTup (aCons (eK (.int 3)) (aCons (eK (.int 4)) (aNil)))) (aCons (eTup (aCons (eK (.int 1)) (aCons (eK (.int 1)) (aNil)))) (aCons (eTup (aCons (eK (.int 1)) (aCons (eK (.int 1)) (aNil)))) (aCons (eTup (aCons (eK (.int 0)) (aCons (eK (.int 1)) (aNil)))) (aNil))))))))) (sSeq (sSet 5 (eLc [13] (iSeq (eTup (aCons (eVar 1) (aCons (eVar 2) (aCons (eVar 3) (aCons (eVar 4) (aNil))))))) (bNm 13) (Ev.ret true) (eIf (tTr (eVar 0)) (eCall (m__law_soft 8) (aCons (eVar 13) (aNil))) (eVar 13)))) (sSeq (sTgt (bTp [bNm 6, bNm 7, bNm 8]) (eTup (aCons (eTup (aCons (eK (.int 0)) (aCons (eK (.int 1)) (aNil)))) (aCons (eTup (aCons (eK (.int 1)) (aCons (eK (.int 1)) (aNil)))) (aCons (eTup (aCons (eK (.int 1)) (aCons (eK (.int 2)) (aNil)))) (aNil)))))) (sSeq (sSet 9 (eLst (aCons (eCall m_up_curve (aCons (eOp2 dIx (eVar 5) (eK (.int 0))) (aNil))) (aCons (eCallK m_up_curve [0] aNil (aCons (eVar 2) (aNil))) (aCons (eCall m_up_curve (aCons (eOp2 dIx (eVar 5) (eK (.int 2))) (aNil))) (aCons (eCall m_up_curve (aCons (eTup (aCons (eTup (aCons (eK (.int 0)) (aCons (eK (.int 1)) (aCons (eK (.int 2)) (aCons (eK (.int 3)) (aCons (eK (.int 4)) (aCons (eK (.int 5)) (aNil)))))))) (aNil))) (aNil))) (aCons (eCall m_up_curve (aCons (eTup (aCons (eTup (aCons (eK (.int 4)) (aNil))) (aCons (eTup (aCons (eK (.int 4)) (aCons (eK (.int 5)) (aNil)))) (aNil)))) (aNil))) (aCons (eCall m_deciding_curve (aCons (eOp2 dIx (eVar 5) (eK (.int 0))) (aCons (eK (.int 0)) (aNil)))) (aNil))))))))) (sSeq (sSet 9 (eOp2 dAdd (eVar 9) (eLst (aCons (eCallK m_deciding_curve [1, 0] aNil (aCons (eK (.int 5)) (aCons (eVar 1) (aNil)))) (aCons (eCall m_deciding_curve (aCons (eOp2 dIx (eVar 5) (eK (.int 1))) (aCons (eK (.int 2)) (aNil)))) (aCons (eCall m_deciding_curve (aCons (eTup (aCons (eTup (aCons (eK (.int 4)) (aNil))) (aCons (eTup (aCons (eK (.int 4)) (aCons (eK (.int 5)) (aNil)))) (aNil)))) (aCons (eK (.int 5)) (aNil)))) (aCons (eCall m_deciding_curve (aCons (eTup (aCons (eTup (aCons (eK (.int 3)) (aNil))) (aNil))) (aCons (eK (.int 3)) (aNil)))) (aNil)))))))) (sSeq (sSet 10 (eLst (aCons (eTup (aCons (eVar 6) (aCons (eVar 6) (aCons (eTup (aCons (eK (.int 3)) (aCons (eK (.int 1)) (aNil)))) (aCons (eTup (aCons (eOp1 dNeg (eK (.int 2))) (aCons (eK (.int 1)) (aNil)))) (aNil)))))) (aCons (eTup (aCons (eVar 6) (aCons (eVar 6) (aCons (eTup (aCons (eK (.int 2)) (aCons (eK (.int 1)) (aNil)))) (aCons (eVar 6) (aCons (eTup (aCons (eOp1 dNeg (eK (.int 1))) (aCons (eK (.int 1)) (aNil)))) (aNil))))))) (aCons (eTup (aCons (eVar 6) (aCons (eVar 7) (aNil)))) (aCons (eOp2 dAdd (eOp2 dRepT (eTup (aCons (eVar 6) (aNil))) (eK (.int 6))) (eTup (aCons (eVar 7) (aNil)))) (aCons (eTup (aCons (eVar 6) (aCons (eVar 7) (aNil)))) (aCons (eTup (aCons (eVar 6) (aCons (eTup (aCons (eK (.int 2)) (aCons (eK (.int 1)) (aNil)))) (aCons (eTup (aCons (eOp1 dNeg (eK (.int 2))) (aCons (eK (.int 1)) (aNil)))) (aNil))))) (aCons (eTup (aNil)) (aCons (eTup (aCons (eVar 6) (aCons (eVar 7) (aCons (eVar 6) (aCons (eTup (aCons (eOp1 dNeg (eK (.int 1))) (aCons (eK (.int 1)) (aNil)))) (aNil)))))) (aCons (eTup (aNil)) (aCons (eTup (aCons (eVar 7) (aNil))) (aNil))))))))))))) (sSeq (sSet 9 (eOp2 dAdd (eVar 9) (eLst (aCons (eCall m_up_chance (aCons (eOp2 dIx (eVar 5) (eK (.int 0))) (aCons (eOp2 dIx (eVar 5) (eK (.int 3))) (aNil)))) (aCons (eCallK m_up_chance [1, 0] aNil (aCons (eVar 4) (aCons (eVar 2) (aNil)))) (aCons (eCall m_up_chance (aCons (eTup (aCons (eTup (aCons (eK (.int 3)) (aNil))) (aCons (eTup (aCons (eK (.int 5)) (aNil))) (aNil)))) (aCons (eVar 4) (aNil)))) (aCons (eCall m_deciding_chance (aCons (eOp2 dIx (eVar 5) (eK (.int 0))) (aCons (eK (.int 0)) (aCons (eOp2 dIx (eVar 5) (eK (.int 3))) (aNil))))) (aNil)))))))) (sSeq (sSet 9 (eOp2 dAdd (eVar 9) (eLst (aCons (eCallK m_deciding_chance [2, 1, 0] aNil (aCons (eVar 4) (aCons (eK (.int 2)) (aCons (eVar 2) (aNil))))) (aCons (eCall m_deciding_chance (aCons (eVar 1) (aCons (eK (.int 4)) (aCons (eVar 4) (aNil))))) (aNil)))))) (sSeq (sSet 10 (eOp2 dAdd (eVar 10) (eLst (aCons (eTup (aCons (eK (.int 17)) (aCons (eK (.int 24)) (aNil)))) (aCons (eTup (aCons (eK (.int 5)) (aCons (eK (.int 6)) (aNil)))) (aCons (eVar 7) (aCons (eTup (aCons (eK (.int 5)) (aCons (eK (.int 12)) (aNil)))) (aCons (eTup (aCons (eK (.int 2)) (aCons (eK (.int 3)) (aNil)))) (aCons (eVar 6) (aNil)))))))))) (sSeq (sSet 9 (eOp2 dAdd (eVar 9) (eLst (aCons (eCall m_no_worse (aCons (eOp2 dIx (eVar 5) (eK (.int 0))) (aCons (eOp2 dIx (eVar 5) (eK (.int 2))) (aCons (eVar 8) (aCons (eVar 7) (aNil)))))) (aCons (eCall m_no_worse (aCons (eVar 1) (aCons (eVar 3) (aCons (eVar 6) (aCons (eVar 7) (aNil)))))) (aCons (eCallK m_no_worse [3, 2, 1, 0] aNil (aCons (eVar 8) (aCons (eVar 6) (aCons (eVar 1) (aCons (eVar 3) (aNil)))))) (aCons (eCall m_no_worse (aCons (eVar 1) (aCons (eVar 1) (aCons (eVar 6) (aCons (eVar 7) (aNil)))))) (aNil)))))))) (sSeq (sSet 9 (eOp2 dAdd (eVar 9) (eLst (aCons (eCall m_no_worse (aCons (eVar 2) (aCons (eVar 1) (aCons (eVar 6) (aCons (eVar 8) (aNil)))))) (aCons (eCall m_even_odds (aCons (eOp2 dIx (eVar 5) (eK (.int 0))) (aCons (eOp2 dIx (eVar 5) (eK (.int 2))) (aCons (eVar 6) (aCons (eVar 7) (aNil)))))) (aCons (eCall m_even_odds (aCons (eVar 1) (aCons (eVar 1) (aCons (eVar 6) (aCons (eVar 7) (aNil)))))) (aNil))))))) (sSeq (sSet 9 (eOp2 dAdd (eVar 9) (eLst (aCons (eCallK m_even_odds [3, 2, 1, 0] aNil (aCons (eTup (aCons (eK (.int 3)) (aCons (eK (.int 4)) (aNil)))) (aCons (eTup (aCons (eK (.int 1)) (aCons (eK (.int 4)) (aNil)))) (aCons (eVar 3) (aCons (eVar 1) (aNil)))))) (aCons (eCall m_even_odds (aCons (eVar 1) (aCons (eVar 3) (aCons (eTup (aCons (eK (.int 1)) (aCons (eK (.int 8)) (aNil)))) (aCons (eTup (aCons (eK (.int 1)) (aCons (eK (.int 4)) (aNil)))) (aNil)))))) (aNil)))))) (sSeq (sSet 10 (eOp2 dAdd (eVar 10) (eLst (aCons (eK (.bool true)) (aCons (eK (.bool false)) (aCons (eK (.bool true)) (aCons (eK (.bool true)) (aCons (eK (.bool false)) (aCons (eK (.int 3)) (aCons (eK .none) (aCons (eK (.int 1)) (aCons (eK (.int 0)) (aNil))))))))))))) (sSeq (sSet 11 (eLst (aCons (eTup (aCons (eK (.int 1)) (aCons (eK (.int 4)) (aNil)))) (aCons (eTup (aCons (eK (.int 1)) (aCons (eK (.int 2)) (aNil)))) (aCons (eTup (aCons (eK (.int 3)) (aCons (eK (.int 4)) (aNil)))) (aCons (eTup (aCons (eK (.int 1)) (aCons (eK (.int 100)) (aNil)))) (aCons (eTup (aCons (eK (.int 0)) (aCons (eK (.int 1)) (aNil)))) (aCons (eTup (aCons (eK (.int 2)) (aCons (eK (.int 8)) (aNil)))) (aCons (eLst (aCons (eK (.int 1)) (aCons (eK (.int 4)) (aNil)))) (aCons (eK .none) (aCons (eK (.int 0)) (aCons (eTup (aCons (eK (.int 5)) (aCons (eK (.int 4)) (aNil)))) (aCons (eTup (aCons (eOp1 dNeg (eK (.int 1))) (aCons (eK (.int 4)) (aNil)))) (aNil)))))))))))))) (sSeq (sSet 9 (eOp2 dAdd (eVar 9) (eLst (aCons (eLc [13] (iSeq (eVar 11)) (bNm 13) (Ev.ret true) (eCall m_is_worse_at (aCons (eOp2 dIx (eVar 5) (eK (.int 0))) (aCons (eOp2 dIx (eVar 5) (eK (.int 2))) (aCons (eVar 6) (aCons (eVar 7) (aCons (eVar 13) (aNil)))))))) (aCons (eCallK m_is_worse_at [4, 3, 2, 1, 0] aNil (aCons (eTup (aCons (eK (.int 1)) (aCons (eK (.int 4)) (aNil)))) (aCons (eTup (aCons (eK (.int 1)) (aCons (eK (.int 8)) (aNil)))) (aCons (eVar 6) (aCons (eVar 3) (aCons (eVar 1) (aNil))))))) (aNil)))))) (sSeq (sSet 9 (eOp2 dAdd (eVar 9) (eLst (aCons (eCall m_is_worse_at (aCons (eVar 1) (aCons (eVar 3) (aCons (eVar 6) (aCons (eVar 7) (aCons (eCallK m_worse_at [3, 2, 1, 0] aNil (aCons (eVar 7) (aCons (eVar 6) (aCons (eVar 3) (aCons (eVar 1) (aNil)))))) (aNil))))))) (aNil))))) (sSeq (sSet 10 (eOp2 dAdd (eVar 10) (eLst (aCons (eOp2 dAdd (eLst (aCons (eK (.bool true)) (aCons (eK (.bool false)) (aCons (eK (.bool false)) (aCons (eK (.bool true)) (aNil)))))) (eRepL (eLst (aCons (eK (.bool false)) (aNil))) (eK (.int 7)))) (aCons (eK (.bool false)) (aCons (eK (.bool true)) (aNil))))))) (sSeq (sSet 12 (eOp2 dRepT (eTup (aCons (eTup (aCons (eK (.int 2)) (aCons (eK (.int 3)) (aNil)))) (aNil))) (eK (.int 6)))) (sSeq (sSet 9 (eOp2 dAdd (eVar 9) (eLst (aCons (eCall m_likelier_roster (aCons (eOp2 dIx (eVar 5) (eK (.int 3))) (aCons (eTup (aCons (eK (.int 0)) (aCons (eK (.int 1)) (aCons (eK (.int 2)) (aNil))))) (aNil)))) (aCons (eCall m_likelier_chance (aCons (eOp2 dIx (eVar 5) (eK (.int 3))) (aCons (eTup (aCons (eK (.int 0)) (aCons (eK (.int 1)) (aCons (eK (.int 2)) (aNil))))) (aNil)))) (aCons (eCall m_is_likeliest (aCons (eOp2 dIx (eVar 5) (eK (.int 0))) (aCons (eOp2 dIx (eVar 5) (eK (.int 3))) (aCons (eTup (aCons (eK (.int 0)) (aCons (eK (.int 1)) (aCons (eK (.int 2)) (aNil))))) (aNil))))) (aNil))))))) (sSeq (sSet 9 (eOp2 dAdd (eVar 9) (eLst (aCons (eCallK m_is_likeliest [2, 1, 0] aNil (aCons (eTup (aCons (eK (.int 0)) (aCons (eK (.int 1)) (aCons (eK (.int 2)) (aNil))))) (aCons (eVar 4) (aCons (eTup (aCons (eTup (aCons (eK (.int 2)) (aNil))) (aNil))) (aNil))))) (aCons (eCallK m_likelier_roster [1, 0] aNil (aCons (eTup (aCons (eK (.int 0)) (aCons (eK (.int 1)) (aCons (eK (.int 2)) (aNil))))) (aCons (eVar 12) (aNil)))) (aCons (eCallK m_likelier_chance [1, 0] aNil (aCons (eTup (aCons (eK (.int 0)) (aCons (eK (.int 1)) (aCons (eK (.int 2)) (aNil))))) (aCons (eVar 12) (aNil)))) (aNil))))))) (sSeq (sSet 9 (eOp2 dAdd (eVar 9) (eLst (aCons (eCall m_is_likeliest (aCons (eVar 1) (aCons (eVar 12) (aCons (eTup (aCons (eK (.int 0)) (aCons (eK (.int 1)) (aCons (eK (.int 2)) (aNil))))) (aNil))))) (aCons (eCall m_is_likeliest (aCons (eVar 1) (aCons (eVar 12) (aCons (eTup (aCons (eK (.int 0)) (aCons (eK (.int 1)) (aNil)))) (aNil))))) (aCons (eCall m_is_likeliest (aCons (eVar 2) (aCons (eVar 12) (aCons (eTup (aCons (eK (.int 0)) (aCons (eK (.int 1)) (aCons (eK (.int 2)) (aCons (eK (.int 3)) (aNil)))))) (aNil))))) (aNil))))))) (sSeq (sSet 10 (eOp2 dAdd (eVar 10) (eLst (aCons (eTup (aCons (eTup (aCons (eK (.int 2)) (aNil))) (aNil))) (aCons (eTup (aCons (eK (.int 3)) (aCons (eK (.int 4)) (aNil)))) (aCons (eK (.bool false)) (aCons (eK (.bool true)) (aCons (eVar 1) (aCons (eTup (aCons (eK (.int 20)) (aCons (eK (.int 27)) (aNil)))) (aCons (eK (.bool true)) (aCons (eK (.bool false)) (aCons (eK (.bool false)) (aNil))))))))))))) (sSeq (sSet 9 (eOp2 dAdd (eVar 9) (eLst (aCons (eCall m_likelier_roster (aCons (eOp2 dRepT (eTup (aCons (eVar 8) (aNil))) (eK (.int 6))) (aCons (eTup (aCons (eK (.int 1)) (aCons (eK (.int 4)) (aNil)))) (aNil)))) (aCons (eCall m_likelier_chance (aCons (eOp2 dRepT (eTup (aCons (eVar 8) (aNil))) (eK (.int 6))) (aCons (eTup (aCons (eK (.int 1)) (aCons (eK (.int 4)) (aNil)))) (aNil)))) (aCons (eCall m_likelier_roster (aCons (eVar 4) (aCons (eTup (aCons (eK (.int 2)) (aCons (eK (.int 3)) (aCons (eK (.int 4)) (aNil))))) (aNil)))) (aCons (eCall m_likelier_chance (aCons (eVar 4) (aCons (eLst (aCons (eK (.int 2)) (aCons (eK (.int 3)) (aCons (eK (.int 4)) (aNil))))) (aNil)))) (aNil)))))))) (sSeq (sSet 9 (eOp2 dAdd (eVar 9) (eLst (aCons (eCall m_likelier_roster (aCons (eVar 4) (aCons (eTup (aCons (eK (.int 0)) (aNil))) (aNil)))) (aCons (eCall m_more_than_half (aCons (eTup (aCons (eK (.int 0)) (aCons (eK (.int 2)) (aCons (eK (.int 3)) (aNil))))) (aNil))) (aCons (eCall m_more_than_half (aCons (eLst (aCons (eK (.int 0)) (aCons (eK (.int 1)) (aNil)))) (aNil))) (aCons (eCallK m_more_than_half [0] aNil (aCons (eTup (aCons (eK (.int 5)) (aNil))) (aNil))) (aCons (eCall m_more_than_half (aCons (eTup (aCons (eK (.int 1)) (aCons (eK (.int 2)) (aCons (eK (.int 3)) (aCons (eK (.int 4)) (aNil)))))) (aNil))) (aNil))))))))) (sSeq (sSet 9 (eOp2 dAdd (eVar 9) (eLst (aCons (eB (on1 dLen) (aCons (eCall m_more_than_half (aCons (eTup (aCons (eK (.int 0)) (aCons (eK (.int 1)) (aCons (eK (.int 2)) (aCons (eK (.int 3)) (aCons (eK (.int 4)) (aCons (eK (.int 5)) (aNil)))))))) (aNil))) (aNil))) (aNil))))) (sSeq (sSet 10 (eOp2 dAdd (eVar 10) (eLst (aCons (eTup (aCons (eTup (aCons (eK (.int 1)) (aNil))) (aNil))) (aCons (eVar 8) (aCons (eTup (aCons (eTup (aCons (eK (.int 2)) (aCons (eK (.int 3)) (aNil)))) (aCons (eTup (aCons (eK (.int 2)) (aCons (eK (.int 4)) (aNil)))) (aCons (eTup (aCons (eK (.int 3)) (aCons (eK (.int 4)) (aNil)))) (aNil))))) (aCons (eVar 7) (aCons (eTup (aCons (eTup (aCons (eK (.int 0)) (aNil))) (aNil))) (aCons (eTup (aCons (eTup (aCons (eK (.int 0)) (aCons (eK (.int 2)) (aNil)))) (aCons (eTup (aCons (eK (.int 0)) (aCons (eK (.int 3)) (aNil)))) (aCons (eTup (aCons (eK (.int 2)) (aCons (eK (.int 3)) (aNil)))) (aNil))))) (aCons (eTup (aCons (eTup (aCons (eK (.int 0)) (aCons (eK (.int 1)) (aNil)))) (aNil))) (aCons (eTup (aCons (eTup (aCons (eK (.int 5)) (aNil))) (aNil))) (aCons (eTup (aCons (eTup (aCons (eK (.int 1)) (aCons (eK (.int 2)) (aCons (eK (.int 3)) (aNil))))) (aCons (eTup (aCons (eK (.int 1)) (aCons (eK (.int 2)) (aCons (eK (.int 4)) (aNil))))) (aCons (eTup (aCons (eK (.int 1)) (aCons (eK (.int 3)) (aCons (eK (.int 4)) (aNil))))) (aCons (eTup (aCons (eK (.int 2)) (aCons (eK (.int 3)) (aCons (eK (.int 4)) (aNil))))) (aNil)))))) (aCons (eK (.int 15)) (aNil)))))))))))))) (sRet (eCall (m__law_same 8) (aCons (eVar 9) (aCons (eVar 10) (aNil)))))))))))))))))))))))))))))))
def m__law_rosters_right : Fn := bodyF 13 b__law_rosters_right
theorem d__law_rosters_right (T : Txt K mg) : DefS P w K mg base 18 "_law_rosters_right" s__law_rosters_right ["soft"] m__law_rosters_right := by
  obtain ⟨f, fd, hm, Fu⟩ := T.d__law_rosters_right
  refine ⟨f, fd, fn_ok (k := 17) (m := 13) (body := b__law_rosters_right) Fu sc__law_rosters_right rfl rfl fun cdv A outer s H E hr => ?_, hm, Fu⟩
  exact es_cons (es_tgt (js := [1, 2, 3]) (ev_tup (ea_cons (ev_tup (ea_cons (ev_tup (ea_cons (ev_int) (ea_cons (ev_int) (ea_nil)))) (ea_cons (ev_tup (ea_cons (ev_int) (ea_cons (ev_int) (ea_nil)))) (ea_cons (ev_tup (ea_cons (ev_int) (ea_cons (ev_int) (ea_nil)))) (ea_nil))))) (ea_cons (ev_tup (ea_cons (ev_tup (ea_cons (ev_int) (ea_cons (ev_int) (ea_nil)))) (ea_cons (ev_tup (ea_cons (ev_int) (ea_cons (ev_int) (ea_nil)))) (ea_nil)))) (ea_cons (ev_tup (ea_cons (ev_tup (ea_cons (ev_int) (ea_nil))) (ea_nil))) (ea_nil))))) (tb_tp rfl (tbs_cons (tb_nm (pg_name (i := 1) sc__law_rosters_right.nd rfl (Or.inl rfl))) (tbs_cons (tb_nm (pg_name (i := 2) sc__law_rosters_right.nd rfl (Or.inl rfl))) (tbs_cons (tb_nm (pg_name (i := 3) sc__law_rosters_right.nd rfl (Or.inl rfl))) (tbs_nil)))) rfl)) (es_cons (es_set (i := 4) sc__law_rosters_right.nd rfl (Or.inl rfl) (ev_tup (ea_cons (ev_tup (ea_cons (ev_int) (ea_cons (ev_int) (ea_nil)))) (ea_cons (ev_tup (ea_cons (ev_int) (ea_cons (ev_int) (ea_nil)))) (ea_cons (ev_tup (ea_cons (ev_int) (ea_cons (ev_int) (ea_nil)))) (ea_cons (ev_tup (ea_cons (ev_int) (ea_cons (ev_int) (ea_nil)))) (ea_cons (ev_tup (ea_cons (ev_int) (ea_cons (ev_int) (ea_nil)))) (ea_cons (ev_tup (ea_cons (ev_int) (ea_cons (ev_int) (ea_nil)))) (ea_nil))))))))) (es_cons (es_set (i := 5) sc__law_rosters_right.nd rfl (Or.inr rfl) (ev_lc (own := [("own", 13)]) rfl sc__law_rosters_right.nd (js := [13]) (blkOk_by (own := [("own", 13)]) (N := N__law_rosters_right) (sc := defScope s__law_rosters_right) (by decide +kernel)) (by decide) (ei_seq (ev_tup (ea_cons (ev_var (pv 1)) (ea_cons (ev_var (pv 2)) (ea_cons (ev_var (pv 3)) (ea_cons (ev_var (pv 4)) (ea_nil))))))) (fun _ _ _ _ _ => tb_nm (pg_name (i := 13) sc__law_rosters_right.nd rfl (Or.inl rfl))) (fun _ _ _ _ _ => ets_nil) (fun _ _ _ _ _ => ev_if (et_truth (ev_var (pv 0))) (ev_call (o__law_soft T 8) hr (by decide) (by rfl) takes0 (ea_cons (ev_var (pv 13)) (ea_nil)) (hn := al_cons (al_nil))) (ev_var (pv 13))))) (es_cons (es_tgt (js := [6, 7, 8]) (ev_tup (ea_cons (ev_tup (ea_cons (ev_int) (ea_cons (ev_int) (ea_nil)))) (ea_cons (ev_tup (ea_cons (ev_int) (ea_cons (ev_int) (ea_nil)))) (ea_cons (ev_tup (ea_cons (ev_int) (ea_cons (ev_int) (ea_nil)))) (ea_nil))))) (tb_tp rfl (tbs_cons (tb_nm (pg_name (i := 6) sc__law_rosters_right.nd rfl (Or.inr rfl))) (tbs_cons (tb_nm (pg_name (i := 7) sc__law_rosters_right.nd rfl (Or.inr rfl))) (tbs_cons (tb_nm (pg_name (i := 8) sc__law_rosters_right.nd rfl (Or.inl rfl))) (tbs_nil)))) rfl)) (es_cons (es_set (i := 9) sc__law_rosters_right.nd rfl (Or.inl rfl) (ev_lst (ea_cons (ev_call (o_up_curve T) hr (by decide) (by rfl) (takes_of rfl rfl rfl rfl) (ea_cons (ev_ix (fun _ _ => rfl) (ev_var (pv 5)) (ev_int)) (ea_nil)) (hn := al_cons (al_nil))) (ea_cons (ev_callK0 (perm := [0]) (d_up_curve T) hr (by decide) (by rfl) (takes_of rfl rfl rfl rfl) (ek_cons (ev_var (pv 2)) (ek_nil)) (al_cons (al_nil)) (fun xs h => match xs, h with | [_], _ => rfl) (fun _ _ _ _ _ _ ws h => match ws, h with | [_], _ => rfl)) (ea_cons (ev_call (o_up_curve T) hr (by decide) (by rfl) (takes_of rfl rfl rfl rfl) (ea_cons (ev_ix (fun _ _ => rfl) (ev_var (pv 5)) (ev_int)) (ea_nil)) (hn := al_cons (al_nil))) (ea_cons (ev_call (o_up_curve T) hr (by decide) (by rfl) (takes_of rfl rfl rfl rfl) (ea_cons (ev_tup (ea_cons (ev_tup (ea_cons (ev_int) (ea_cons (ev_int) (ea_cons (ev_int) (ea_cons (ev_int) (ea_cons (ev_int) (ea_cons (ev_int) (ea_nil)))))))) (ea_nil))) (ea_nil)) (hn := al_cons (al_nil))) (ea_cons (ev_call (o_up_curve T) hr (by decide) (by rfl) (takes_of rfl rfl rfl rfl) (ea_cons (ev_tup (ea_cons (ev_tup (ea_cons (ev_int) (ea_nil))) (ea_cons (ev_tup (ea_cons (ev_int) (ea_cons (ev_int) (ea_nil)))) (ea_nil)))) (ea_nil)) (hn := al_cons (al_nil))) (ea_cons (ev_call (o_deciding_curve T) hr (by decide) (by rfl) (takes_of rfl rfl rfl rfl) (ea_cons (ev_ix (fun _ _ => rfl) (ev_var (pv 5)) (ev_int)) (ea_cons (ev_int) (ea_nil))) (hn := al_cons (al_cons (al_nil)))) (ea_nil))))))))) (es_cons (es_set (i := 9) sc__law_rosters_right.nd rfl (Or.inl rfl) (ev_op op_addD (ev_var (pv 9)) (ev_lst (ea_cons (ev_callK0 (perm := [1, 0]) (d_deciding_curve T) hr (by decide) (by rfl) (takes_of rfl rfl rfl rfl) (ek_cons (ev_int) (ek_cons (ev_var (pv 1)) (ek_nil))) (al_cons (al_cons (al_nil))) (fun xs h => match xs, h with | [_, _], _ => rfl) (fun _ _ _ _ _ _ ws h => match ws, h with | [_, _], _ => rfl)) (ea_cons (ev_call (o_deciding_curve T) hr (by decide) (by rfl) (takes_of rfl rfl rfl rfl) (ea_cons (ev_ix (fun _ _ => rfl) (ev_var (pv 5)) (ev_int)) (ea_cons (ev_int) (ea_nil))) (hn := al_cons (al_cons (al_nil)))) (ea_cons (ev_call (o_deciding_curve T) hr (by decide) (by rfl) (takes_of rfl rfl rfl rfl) (ea_cons (ev_tup (ea_cons (ev_tup (ea_cons (ev_int) (ea_nil))) (ea_cons (ev_tup (ea_cons (ev_int) (ea_cons (ev_int) (ea_nil)))) (ea_nil)))) (ea_cons (ev_int) (ea_nil))) (hn := al_cons (al_cons (al_nil)))) (ea_cons (ev_call (o_deciding_curve T) hr (by decide) (by rfl) (takes_of rfl rfl rfl rfl) (ea_cons (ev_tup (ea_cons (ev_tup (ea_cons (ev_int) (ea_nil))) (ea_nil))) (ea_cons (ev_int) (ea_nil))) (hn := al_cons (al_cons (al_nil)))) (ea_nil)))))))) (es_cons (es_set (i := 10) sc__law_rosters_right.nd rfl (Or.inl rfl) (ev_lst (ea_cons (ev_tup (ea_cons (ev_var (pv 6)) (ea_cons (ev_var (pv 6)) (ea_cons (ev_tup (ea_cons (ev_int) (ea_cons (ev_int) (ea_nil)))) (ea_cons (ev_tup (ea_cons (ev_un un_negD (ev_int)) (ea_cons (ev_int) (ea_nil)))) (ea_nil)))))) (ea_cons (ev_tup (ea_cons (ev_var (pv 6)) (ea_cons (ev_var (pv 6)) (ea_cons (ev_tup (ea_cons (ev_int) (ea_cons (ev_int) (ea_nil)))) (ea_cons (ev_var (pv 6)) (ea_cons (ev_tup (ea_cons (ev_un un_negD (ev_int)) (ea_cons (ev_int) (ea_nil)))) (ea_nil))))))) (ea_cons (ev_tup (ea_cons (ev_var (pv 6)) (ea_cons (ev_var (pv 7)) (ea_nil)))) (ea_cons (ev_op op_addD (ev_op op_repTD (ev_tup (ea_cons (ev_var (pv 6)) (ea_nil))) (ev_int)) (ev_tup (ea_cons (ev_var (pv 7)) (ea_nil)))) (ea_cons (ev_tup (ea_cons (ev_var (pv 6)) (ea_cons (ev_var (pv 7)) (ea_nil)))) (ea_cons (ev_tup (ea_cons (ev_var (pv 6)) (ea_cons (ev_tup (ea_cons (ev_int) (ea_cons (ev_int) (ea_nil)))) (ea_cons (ev_tup (ea_cons (ev_un un_negD (ev_int)) (ea_cons (ev_int) (ea_nil)))) (ea_nil))))) (ea_cons (ev_tup (ea_nil)) (ea_cons (ev_tup (ea_cons (ev_var (pv 6)) (ea_cons (ev_var (pv 7)) (ea_cons (ev_var (pv 6)) (ea_cons (ev_tup (ea_cons (ev_un un_negD (ev_int)) (ea_cons (ev_int) (ea_nil)))) (ea_nil)))))) (ea_cons (ev_tup (ea_nil)) (ea_cons (ev_tup (ea_cons (ev_var (pv 7)) (ea_nil))) (ea_nil))))))))))))) (es_cons (es_set (i := 9) sc__law_rosters_right.nd rfl (Or.inl rfl) (ev_op op_addD (ev_var (pv 9)) (ev_lst (ea_cons (ev_call (o_up_chance T) hr (by decide) (by rfl) (takes_of rfl rfl rfl rfl) (ea_cons (ev_ix (fun _ _ => rfl) (ev_var (pv 5)) (ev_int)) (ea_cons (ev_ix (fun _ _ => rfl) (ev_var (pv 5)) (ev_int)) (ea_nil))) (hn := al_cons (al_cons (al_nil)))) (ea_cons (ev_callK0 (perm := [1, 0]) (d_up_chance T) hr (by decide) (by rfl) (takes_of rfl rfl rfl rfl) (ek_cons (ev_var (pv 4)) (ek_cons (ev_var (pv 2)) (ek_nil))) (al_cons (al_cons (al_nil))) (fun xs h => match xs, h with | [_, _], _ => rfl) (fun _ _ _ _ _ _ ws h => match ws, h with | [_, _], _ => rfl)) (ea_cons (ev_call (o_up_chance T) hr (by decide) (by rfl) (takes_of rfl rfl rfl rfl) (ea_cons (ev_tup (ea_cons (ev_tup (ea_cons (ev_int) (ea_nil))) (ea_cons (ev_tup (ea_cons (ev_int) (ea_nil))) (ea_nil)))) (ea_cons (ev_var (pv 4)) (ea_nil))) (hn := al_cons (al_cons (al_nil)))) (ea_cons (ev_call (o_deciding_chance T) hr (by decide) (by rfl) (takes_of rfl rfl rfl rfl) (ea_cons (ev_ix (fun _ _ => rfl) (ev_var (pv 5)) (ev_int)) (ea_cons (ev_int) (ea_cons (ev_ix (fun _ _ => rfl) (ev_var (pv 5)) (ev_int)) (ea_nil)))) (hn := al_cons (al_cons (al_cons (al_nil))))) (ea_nil)))))))) (es_cons (es_set (i := 9) sc__law_rosters_right.nd rfl (Or.inl rfl) (ev_op op_addD (ev_var (pv 9)) (ev_lst (ea_cons (ev_callK0 (perm := [2, 1, 0]) (d_deciding_chance T) hr (by decide) (by rfl) (takes_of rfl rfl rfl rfl) (ek_cons (ev_var (pv 4)) (ek_cons (ev_int) (ek_cons (ev_var (pv 2)) (ek_nil)))) (al_cons (al_cons (al_cons (al_nil)))) (fun xs h => match xs, h with | [_, _, _], _ => rfl) (fun _ _ _ _ _ _ ws h => match ws, h with | [_, _, _], _ => rfl)) (ea_cons (ev_call (o_deciding_chance T) hr (by decide) (by rfl) (takes_of rfl rfl rfl rfl) (ea_cons (ev_var (pv 1)) (ea_cons (ev_int) (ea_cons (ev_var (pv 4)) (ea_nil)))) (hn := al_cons (al_cons (al_cons (al_nil))))) (ea_nil)))))) (es_cons (es_set (i := 10) sc__law_rosters_right.nd rfl (Or.inl rfl) (ev_op op_addD (ev_var (pv 10)) (ev_lst (ea_cons (ev_tup (ea_cons (ev_int) (ea_cons (ev_int) (ea_nil)))) (ea_cons (ev_tup (ea_cons (ev_int) (ea_cons (ev_int) (ea_nil)))) (ea_cons (ev_var (pv 7)) (ea_cons (ev_tup (ea_cons (ev_int) (ea_cons (ev_int) (ea_nil)))) (ea_cons (ev_tup (ea_cons (ev_int) (ea_cons (ev_int) (ea_nil)))) (ea_cons (ev_var (pv 6)) (ea_nil)))))))))) (es_cons (es_set (i := 9) sc__law_rosters_right.nd rfl (Or.inl rfl) (ev_op op_addD (ev_var (pv 9)) (ev_lst (ea_cons (ev_call (o_no_worse T) hr (by decide) (by rfl) (takes_of rfl rfl rfl rfl) (ea_cons (ev_ix (fun _ _ => rfl) (ev_var (pv 5)) (ev_int)) (ea_cons (ev_ix (fun _ _ => rfl) (ev_var (pv 5)) (ev_int)) (ea_cons (ev_var (pv 8)) (ea_cons (ev_var (pv 7)) (ea_nil))))) (hn := al_cons (al_cons (al_cons (al_cons (al_nil)))))) (ea_cons (ev_call (o_no_worse T) hr (by decide) (by rfl) (takes_of rfl rfl rfl rfl) (ea_cons (ev_var (pv 1)) (ea_cons (ev_var (pv 3)) (ea_cons (ev_var (pv 6)) (ea_cons (ev_var (pv 7)) (ea_nil))))) (hn := al_cons (al_cons (al_cons (al_cons (al_nil)))))) (ea_cons (ev_callK0 (perm := [3, 2, 1, 0]) (d_no_worse T) hr (by decide) (by rfl) (takes_of rfl rfl rfl rfl) (ek_cons (ev_var (pv 8)) (ek_cons (ev_var (pv 6)) (ek_cons (ev_var (pv 1)) (ek_cons (ev_var (pv 3)) (ek_nil))))) (al_cons (al_cons (al_cons (al_cons (al_nil))))) (fun xs h => match xs, h with | [_, _, _, _], _ => rfl) (fun _ _ _ _ _ _ ws h => match ws, h with | [_, _, _, _], _ => rfl)) (ea_cons (ev_call (o_no_worse T) hr (by decide) (by rfl) (takes_of rfl rfl rfl rfl) (ea_cons (ev_var (pv 1)) (ea_cons (ev_var (pv 1)) (ea_cons (ev_var (pv 6)) (ea_cons (ev_var (pv 7)) (ea_nil))))) (hn := al_cons (al_cons (al_cons (al_cons (al_nil)))))) (ea_nil)))))))) (es_cons (es_set (i := 9) sc__law_rosters_right.nd rfl (Or.inl rfl) (ev_op op_addD (ev_var (pv 9)) (ev_lst (ea_cons (ev_call (o_no_worse T) hr (by decide) (by rfl) (takes_of rfl rfl rfl rfl) (ea_cons (ev_var (pv 2)) (ea_cons (ev_var (pv 1)) (ea_cons (ev_var (pv 6)) (ea_cons (ev_var (pv 8)) (ea_nil))))) (hn := al_cons (al_cons (al_cons (al_cons (al_nil)))))) (ea_cons (ev_call (o_even_odds T) hr (by decide) (by rfl) (takes_of rfl rfl rfl rfl) (ea_cons (ev_ix (fun _ _ => rfl) (ev_var (pv 5)) (ev_int)) (ea_cons (ev_ix (fun _ _ => rfl) (ev_var (pv 5)) (ev_int)) (ea_cons (ev_var (pv 6)) (ea_cons (ev_var (pv 7)) (ea_nil))))) (hn := al_cons (al_cons (al_cons (al_cons (al_nil)))))) (ea_cons (ev_call (o_even_odds T) hr (by decide) (by rfl) (takes_of rfl rfl rfl rfl) (ea_cons (ev_var (pv 1)) (ea_cons (ev_var (pv 1)) (ea_cons (ev_var (pv 6)) (ea_cons (ev_var (pv 7)) (ea_nil))))) (hn := al_cons (al_cons (al_cons (al_cons (al_nil)))))) (ea_nil))))))) (es_cons (es_set (i := 9) sc__law_rosters_right.nd rfl (Or.inl rfl) (ev_op op_addD (ev_var (pv 9)) (ev_lst (ea_cons (ev_callK0 (perm := [3, 2, 1, 0]) (d_even_odds T) hr (by decide) (by rfl) (takes_of rfl rfl rfl rfl) (ek_cons (ev_tup (ea_cons (ev_int) (ea_cons (ev_int) (ea_nil)))) (ek_cons (ev_tup (ea_cons (ev_int) (ea_cons (ev_int) (ea_nil)))) (ek_cons (ev_var (pv 3)) (ek_cons (ev_var (pv 1)) (ek_nil))))) (al_cons (al_cons (al_cons (al_cons (al_nil))))) (fun xs h => match xs, h with | [_, _, _, _], _ => rfl) (fun _ _ _ _ _ _ ws h => match ws, h with | [_, _, _, _], _ => rfl)) (ea_cons (ev_call (o_even_odds T) hr (by decide) (by rfl) (takes_of rfl rfl rfl rfl) (ea_cons (ev_var (pv 1)) (ea_cons (ev_var (pv 3)) (ea_cons (ev_tup (ea_cons (ev_int) (ea_cons (ev_int) (ea_nil)))) (ea_cons (ev_tup (ea_cons (ev_int) (ea_cons (ev_int) (ea_nil)))) (ea_nil))))) (hn := al_cons (al_cons (al_cons (al_cons (al_nil)))))) (ea_nil)))))) (es_cons (es_set (i := 10) sc__law_rosters_right.nd rfl (Or.inl rfl) (ev_op op_addD (ev_var (pv 10)) (ev_lst (ea_cons (ev_bl) (ea_cons (ev_bl) (ea_cons (ev_bl) (ea_cons (ev_bl) (ea_cons (ev_bl) (ea_cons (ev_int) (ea_cons (ev_non) (ea_cons (ev_int) (ea_cons (ev_int) (ea_nil))))))))))))) (es_cons (es_set (i := 11) sc__law_rosters_right.nd rfl (Or.inl rfl) (ev_lst (ea_cons (ev_tup (ea_cons (ev_int) (ea_cons (ev_int) (ea_nil)))) (ea_cons (ev_tup (ea_cons (ev_int) (ea_cons (ev_int) (ea_nil)))) (ea_cons (ev_tup (ea_cons (ev_int) (ea_cons (ev_int) (ea_nil)))) (ea_cons (ev_tup (ea_cons (ev_int) (ea_cons (ev_int) (ea_nil)))) (ea_cons (ev_tup (ea_cons (ev_int) (ea_cons (ev_int) (ea_nil)))) (ea_cons (ev_tup (ea_cons (ev_int) (ea_cons (ev_int) (ea_nil)))) (ea_cons (ev_lst (ea_cons (ev_int) (ea_cons (ev_int) (ea_nil)))) (ea_cons (ev_non) (ea_cons (ev_int) (ea_cons (ev_tup (ea_cons (ev_int) (ea_cons (ev_int) (ea_nil)))) (ea_cons (ev_tup (ea_cons (ev_un un_negD (ev_int)) (ea_cons (ev_int) (ea_nil)))) (ea_nil)))))))))))))) (es_cons (es_set (i := 9) sc__law_rosters_right.nd rfl (Or.inl rfl) (ev_op op_addD (ev_var (pv 9)) (ev_lst (ea_cons (ev_lc (own := [("own", 13)]) rfl sc__law_rosters_right.nd (js := [13]) (blkOk_by (own := [("own", 13)]) (N := N__law_rosters_right) (sc := defScope s__law_rosters_right) (by decide +kernel)) (by decide) (ei_seq (ev_var (pv 11))) (fun _ _ _ _ _ => tb_nm (pg_name (i := 13) sc__law_rosters_right.nd rfl (Or.inl rfl))) (fun _ _ _ _ _ => ets_nil) (fun _ _ _ _ _ => ev_call (o_is_worse_at T) hr (by decide) (by rfl) takes0 (ea_cons (ev_ix (fun _ _ => rfl) (ev_var (pv 5)) (ev_int)) (ea_cons (ev_ix (fun _ _ => rfl) (ev_var (pv 5)) (ev_int)) (ea_cons (ev_var (pv 6)) (ea_cons (ev_var (pv 7)) (ea_cons (ev_var (pv 13)) (ea_nil)))))) (hn := al_cons (al_cons (al_cons (al_cons (al_cons (al_nil)))))))) (ea_cons (ev_callK0 (perm := [4, 3, 2, 1, 0]) (d_is_worse_at T) hr (by decide) (by rfl) (takes_of rfl rfl rfl rfl) (ek_cons (ev_tup (ea_cons (ev_int) (ea_cons (ev_int) (ea_nil)))) (ek_cons (ev_tup (ea_cons (ev_int) (ea_cons (ev_int) (ea_nil)))) (ek_cons (ev_var (pv 6)) (ek_cons (ev_var (pv 3)) (ek_cons (ev_var (pv 1)) (ek_nil)))))) (al_cons (al_cons (al_cons (al_cons (al_cons (al_nil)))))) (fun xs h => match xs, h with | [_, _, _, _, _], _ => rfl) (fun _ _ _ _ _ _ ws h => match ws, h with | [_, _, _, _, _], _ => rfl)) (ea_nil)))))) (es_cons (es_set (i := 9) sc__law_rosters_right.nd rfl (Or.inl rfl) (ev_op op_addD (ev_var (pv 9)) (ev_lst (ea_cons (ev_call (o_is_worse_at T) hr (by decide) (by rfl) (takes_of rfl rfl rfl rfl) (ea_cons (ev_var (pv 1)) (ea_cons (ev_var (pv 3)) (ea_cons (ev_var (pv 6)) (ea_cons (ev_var (pv 7)) (ea_cons (ev_callK0 (perm := [3, 2, 1, 0]) (d_worse_at T) hr (by decide) (by rfl) (takes_of rfl rfl rfl rfl) (ek_cons (ev_var (pv 7)) (ek_cons (ev_var (pv 6)) (ek_cons (ev_var (pv 3)) (ek_cons (ev_var (pv 1)) (ek_nil))))) (al_cons (al_cons (al_cons (al_cons (al_nil))))) (fun xs h => match xs, h with | [_, _, _, _], _ => rfl) (fun _ _ _ _ _ _ ws h => match ws, h with | [_, _, _, _], _ => rfl)) (ea_nil)))))) (hn := al_cons (al_cons (al_cons (al_cons (al_cons (al_nil))))))) (ea_nil))))) (es_cons (es_set (i := 10) sc__law_rosters_right.nd rfl (Or.inl rfl) (ev_op op_addD (ev_var (pv 10)) (ev_lst (ea_cons (ev_op op_addD (ev_lst (ea_cons (ev_bl) (ea_cons (ev_bl) (ea_cons (ev_bl) (ea_cons (ev_bl) (ea_nil)))))) (ev_repL (ev_lst (ea_cons (ev_bl) (ea_nil))) (ev_int))) (ea_cons (ev_bl) (ea_cons (ev_bl) (ea_nil))))))) (es_cons (es_set (i := 12) sc__law_rosters_right.nd rfl (Or.inl rfl) (ev_op op_repTD (ev_tup (ea_cons (ev_tup (ea_cons (ev_int) (ea_cons (ev_int) (ea_nil)))) (ea_nil))) (ev_int))) (es_cons (es_set (i := 9) sc__law_rosters_right.nd rfl (Or.inl rfl) (ev_op op_addD (ev_var (pv 9)) (ev_lst (ea_cons (ev_call (o_likelier_roster T) hr (by decide) (by rfl) (takes_of rfl rfl rfl rfl) (ea_cons (ev_ix (fun _ _ => rfl) (ev_var (pv 5)) (ev_int)) (ea_cons (ev_tup (ea_cons (ev_int) (ea_cons (ev_int) (ea_cons (ev_int) (ea_nil))))) (ea_nil))) (hn := al_cons (al_cons (al_nil)))) (ea_cons (ev_call (o_likelier_chance T) hr (by decide) (by rfl) (takes_of rfl rfl rfl rfl) (ea_cons (ev_ix (fun _ _ => rfl) (ev_var (pv 5)) (ev_int)) (ea_cons (ev_tup (ea_cons (ev_int) (ea_cons (ev_int) (ea_cons (ev_int) (ea_nil))))) (ea_nil))) (hn := al_cons (al_cons (al_nil)))) (ea_cons (ev_call (o_is_likeliest T) hr (by decide) (by rfl) (takes_of rfl rfl rfl rfl) (ea_cons (ev_ix (fun _ _ => rfl) (ev_var (pv 5)) (ev_int)) (ea_cons (ev_ix (fun _ _ => rfl) (ev_var (pv 5)) (ev_int)) (ea_cons (ev_tup (ea_cons (ev_int) (ea_cons (ev_int) (ea_cons (ev_int) (ea_nil))))) (ea_nil)))) (hn := al_cons (al_cons (al_cons (al_nil))))) (ea_nil))))))) (es_cons (es_set (i := 9) sc__law_rosters_right.nd rfl (Or.inl rfl) (ev_op op_addD (ev_var (pv 9)) (ev_lst (ea_cons (ev_callK0 (perm := [2, 1, 0]) (d_is_likeliest T) hr (by decide) (by rfl) (takes_of rfl rfl rfl rfl) (ek_cons (ev_tup (ea_cons (ev_int) (ea_cons (ev_int) (ea_cons (ev_int) (ea_nil))))) (ek_cons (ev_var (pv 4)) (ek_cons (ev_tup (ea_cons (ev_tup (ea_cons (ev_int) (ea_nil))) (ea_nil))) (ek_nil)))) (al_cons (al_cons (al_cons (al_nil)))) (fun xs h => match xs, h with | [_, _, _], _ => rfl) (fun _ _ _ _ _ _ ws h => match ws, h with | [_, _, _], _ => rfl)) (ea_cons (ev_callK0 (perm := [1, 0]) (d_likelier_roster T) hr (by decide) (by rfl) (takes_of rfl rfl rfl rfl) (ek_cons (ev_tup (ea_cons (ev_int) (ea_cons (ev_int) (ea_cons (ev_int) (ea_nil))))) (ek_cons (ev_var (pv 12)) (ek_nil))) (al_cons (al_cons (al_nil))) (fun xs h => match xs, h with | [_, _], _ => rfl) (fun _ _ _ _ _ _ ws h => match ws, h with | [_, _], _ => rfl)) (ea_cons (ev_callK0 (perm := [1, 0]) (d_likelier_chance T) hr (by decide) (by rfl) (takes_of rfl rfl rfl rfl) (ek_cons (ev_tup (ea_cons (ev_int) (ea_cons (ev_int) (ea_cons (ev_int) (ea_nil))))) (ek_cons (ev_var (pv 12)) (ek_nil))) (al_cons (al_cons (al_nil))) (fun xs h => match xs, h with | [_, _], _ => rfl) (fun _ _ _ _ _ _ ws h => match ws, h with | [_, _], _ => rfl)) (ea_nil))))))) (es_cons (es_set (i := 9) sc__law_rosters_right.nd rfl (Or.inl rfl) (ev_op op_addD (ev_var (pv 9)) (ev_lst (ea_cons (ev_call (o_is_likeliest T) hr (by decide) (by rfl) (takes_of rfl rfl rfl rfl) (ea_cons (ev_var (pv 1)) (ea_cons (ev_var (pv 12)) (ea_cons (ev_tup (ea_cons (ev_int) (ea_cons (ev_int) (ea_cons (ev_int) (ea_nil))))) (ea_nil)))) (hn := al_cons (al_cons (al_cons (al_nil))))) (ea_cons (ev_call (o_is_likeliest T) hr (by decide) (by rfl) (takes_of rfl rfl rfl rfl) (ea_cons (ev_var (pv 1)) (ea_cons (ev_var (pv 12)) (ea_cons (ev_tup (ea_cons (ev_int) (ea_cons (ev_int) (ea_nil)))) (ea_nil)))) (hn := al_cons (al_cons (al_cons (al_nil))))) (ea_cons (ev_call (o_is_likeliest T) hr (by decide) (by rfl) (takes_of rfl rfl rfl rfl) (ea_cons (ev_var (pv 2)) (ea_cons (ev_var (pv 12)) (ea_cons (ev_tup (ea_cons (ev_int) (ea_cons (ev_int) (ea_cons (ev_int) (ea_cons (ev_int) (ea_nil)))))) (ea_nil)))) (hn := al_cons (al_cons (al_cons (al_nil))))) (ea_nil))))))) (es_cons (es_set (i := 10) sc__law_rosters_right.nd rfl (Or.inl rfl) (ev_op op_addD (ev_var (pv 10)) (ev_lst (ea_cons (ev_tup (ea_cons (ev_tup (ea_cons (ev_int) (ea_nil))) (ea_nil))) (ea_cons (ev_tup (ea_cons (ev_int) (ea_cons (ev_int) (ea_nil)))) (ea_cons (ev_bl) (ea_cons (ev_bl) (ea_cons (ev_var (pv 1)) (ea_cons (ev_tup (ea_cons (ev_int) (ea_cons (ev_int) (ea_nil)))) (ea_cons (ev_bl) (ea_cons (ev_bl) (ea_cons (ev_bl) (ea_nil))))))))))))) (es_cons (es_set (i := 9) sc__law_rosters_right.nd rfl (Or.inl rfl) (ev_op op_addD (ev_var (pv 9)) (ev_lst (ea_cons (ev_call (o_likelier_roster T) hr (by decide) (by rfl) (takes_of rfl rfl rfl rfl) (ea_cons (ev_op op_repTD (ev_tup (ea_cons (ev_var (pv 8)) (ea_nil))) (ev_int)) (ea_cons (ev_tup (ea_cons (ev_int) (ea_cons (ev_int) (ea_nil)))) (ea_nil))) (hn := al_cons (al_cons (al_nil)))) (ea_cons (ev_call (o_likelier_chance T) hr (by decide) (by rfl) (takes_of rfl rfl rfl rfl) (ea_cons (ev_op op_repTD (ev_tup (ea_cons (ev_var (pv 8)) (ea_nil))) (ev_int)) (ea_cons (ev_tup (ea_cons (ev_int) (ea_cons (ev_int) (ea_nil)))) (ea_nil))) (hn := al_cons (al_cons (al_nil)))) (ea_cons (ev_call (o_likelier_roster T) hr (by decide) (by rfl) (takes_of rfl rfl rfl rfl) (ea_cons (ev_var (pv 4)) (ea_cons (ev_tup (ea_cons (ev_int) (ea_cons (ev_int) (ea_cons (ev_int) (ea_nil))))) (ea_nil))) (hn := al_cons (al_cons (al_nil)))) (ea_cons (ev_call (o_likelier_chance T) hr (by decide) (by rfl) (takes_of rfl rfl rfl rfl) (ea_cons (ev_var (pv 4)) (ea_cons (ev_lst (ea_cons (ev_int) (ea_cons (ev_int) (ea_cons (ev_int) (ea_nil))))) (ea_nil))) (hn := al_cons (al_cons (al_nil)))) (ea_nil)))))))) (es_cons (es_set (i := 9) sc__law_rosters_right.nd rfl (Or.inl rfl) (ev_op op_addD (ev_var (pv 9)) (ev_lst (ea_cons (ev_call (o_likelier_roster T) hr (by decide) (by rfl) (takes_of rfl rfl rfl rfl) (ea_cons (ev_var (pv 4)) (ea_cons (ev_tup (ea_cons (ev_int) (ea_nil))) (ea_nil))) (hn := al_cons (al_cons (al_nil)))) (ea_cons (ev_call (o_more_than_half T) hr (by decide) (by rfl) (takes_of rfl rfl rfl rfl) (ea_cons (ev_tup (ea_cons (ev_int) (ea_cons (ev_int) (ea_cons (ev_int) (ea_nil))))) (ea_nil)) (hn := al_cons (al_nil))) (ea_cons (ev_call (o_more_than_half T) hr (by decide) (by rfl) (takes_of rfl rfl rfl rfl) (ea_cons (ev_lst (ea_cons (ev_int) (ea_cons (ev_int) (ea_nil)))) (ea_nil)) (hn := al_cons (al_nil))) (ea_cons (ev_callK0 (perm := [0]) (d_more_than_half T) hr (by decide) (by rfl) (takes_of rfl rfl rfl rfl) (ek_cons (ev_tup (ea_cons (ev_int) (ea_nil))) (ek_nil)) (al_cons (al_nil)) (fun xs h => match xs, h with | [_], _ => rfl) (fun _ _ _ _ _ _ ws h => match ws, h with | [_], _ => rfl)) (ea_cons (ev_call (o_more_than_half T) hr (by decide) (by rfl) (takes_of rfl rfl rfl rfl) (ea_cons (ev_tup (ea_cons (ev_int) (ea_cons (ev_int) (ea_cons (ev_int) (ea_cons (ev_int) (ea_nil)))))) (ea_nil)) (hn := al_cons (al_nil))) (ea_nil))))))))) (es_cons (es_set (i := 9) sc__law_rosters_right.nd rfl (Or.inl rfl) (ev_op op_addD (ev_var (pv 9)) (ev_lst (ea_cons (ev_B cr_lenD (by rfl) T.b_len PySem.boot_len (ea_cons (ev_call (o_more_than_half T) hr (by decide) (by rfl) (takes_of rfl rfl rfl rfl) (ea_cons (ev_tup (ea_cons (ev_int) (ea_cons (ev_int) (ea_cons (ev_int) (ea_cons (ev_int) (ea_cons (ev_int) (ea_cons (ev_int) (ea_nil)))))))) (ea_nil)) (hn := al_cons (al_nil))) (ea_nil))) (ea_nil))))) (es_cons (es_set (i := 10) sc__law_rosters_right.nd rfl (Or.inl rfl) (ev_op op_addD (ev_var (pv 10)) (ev_lst (ea_cons (ev_tup (ea_cons (ev_tup (ea_cons (ev_int) (ea_nil))) (ea_nil))) (ea_cons (ev_var (pv 8)) (ea_cons (ev_tup (ea_cons (ev_tup (ea_cons (ev_int) (ea_cons (ev_int) (ea_nil)))) (ea_cons (ev_tup (ea_cons (ev_int) (ea_cons (ev_int) (ea_nil)))) (ea_cons (ev_tup (ea_cons (ev_int) (ea_cons (ev_int) (ea_nil)))) (ea_nil))))) (ea_cons (ev_var (pv 7)) (ea_cons (ev_tup (ea_cons (ev_tup (ea_cons (ev_int) (ea_nil))) (ea_nil))) (ea_cons (ev_tup (ea_cons (ev_tup (ea_cons (ev_int) (ea_cons (ev_int) (ea_nil)))) (ea_cons (ev_tup (ea_cons (ev_int) (ea_cons (ev_int) (ea_nil)))) (ea_cons (ev_tup (ea_cons (ev_int) (ea_cons (ev_int) (ea_nil)))) (ea_nil))))) (ea_cons (ev_tup (ea_cons (ev_tup (ea_cons (ev_int) (ea_cons (ev_int) (ea_nil)))) (ea_nil))) (ea_cons (ev_tup (ea_cons (ev_tup (ea_cons (ev_int) (ea_nil))) (ea_nil))) (ea_cons (ev_tup (ea_cons (ev_tup (ea_cons (ev_int) (ea_cons (ev_int) (ea_cons (ev_int) (ea_nil))))) (ea_cons (ev_tup (ea_cons (ev_int) (ea_cons (ev_int) (ea_cons (ev_int) (ea_nil))))) (ea_cons (ev_tup (ea_cons (ev_int) (ea_cons (ev_int) (ea_cons (ev_int) (ea_nil))))) (ea_cons (ev_tup (ea_cons (ev_int) (ea_cons (ev_int) (ea_cons (ev_int) (ea_nil))))) (ea_nil)))))) (ea_cons (ev_int) (ea_nil)))))))))))))) (es_one (es_ret (ev_call (o__law_same T 8) hr (by decide) (by rfl) (takes_of rfl rfl rfl rfl) (ea_cons (ev_var (pv 9)) (ea_cons (ev_var (pv 10)) (ea_nil))) (hn := al_cons (al_cons (al_nil))))))))))))))))))))))))))))))))
theorem o__law_rosters_right (T : Txt K mg) : DefOk P w K mg base 18 "_law_rosters_right" ["soft"] m__law_rosters_right := (d__law_rosters_right T).ok (fun _ _ _ _ _ _ us hl => match us, hl with | [_], _ => rfl)
def b_law : S := sSeq (sSet 1 (eCall m__law_box (aCons (eCall m__law_cells (aCons (eVar 0) (aCons (eK (.int 1)) (aNil)))) (aCons (eK (.int 0)) (aNil))))) (sSeq (sPar 2 3 (eOp2 dEq (eCallU m__law_take 0 (aCons (eVar 1) (aCons (eK (.int 2)) (aNil)))) (eK (.int 0))) (eCallU m__law_take 0 (aCons (eVar 1) (aCons (eK (.int 3)) (aNil))))) (sSeq (sIf (tBool (eOp2 dLt (eVar 3) (eK (.int 2)))) (sRet (eIf (tBool (eOp2 dEq (eVar 3) (eK (.int 0)))) (eCall m__law_curves_right (aCons (eVar 2) (aNil))) (eCall m__law_rosters_right (aCons (eVar 2) (aNil))))) (sNx)) (sSeq (sTgt (bTp [bNm 4, bNm 5, bNm 6]) (eTup (aCons (eTup (aCons (eTup (aCons (eK (.int 0)) (aCons (eK (.int 1)) (aNil)))) (aCons (eTup (aCons (eK (.int 0)) (aCons (eK (.int 2)) (aNil)))) (aCons (eTup (aCons (eK (.int 1)) (aCons (eK (.int 2)) (aNil)))) (aNil))))) (aCons (eTup (aCons (eTup (aCons (eK (.int 0)) (aNil))) (aNil))) (aCons (eTup (aCons (eTup (aCons (eK (.int 0)) (aCons (eK (.int 1)) (aNil)))) (aCons (eTup (aCons (eK (.int 1)) (aCons (eK (.int 1)) (aNil)))) (aNil)))) (aNil)))))) (sSeq (sSet 7 (eLst (aCons (eTup (aCons (eTup (aCons (eK (.int 1)) (aCons (eK (.int 2)) (aNil)))) (aCons (eTup (aCons (eK (.int 1)) (aCons (eK (.int 3)) (aNil)))) (aNil)))) (aCons (eTup (aCons (eTup (aCons (eOp1 dNeg (eK (.int 1))) (aCons (eK (.int 2)) (aNil)))) (aCons (eTup (aCons (eK (.int 1)) (aCons (eK (.int 2)) (aNil)))) (aNil)))) (aCons (eTup (aCons (eTup (aCons (eK (.int 1)) (aCons (eK (.int 2)) (aNil)))) (aCons (eTup (aCons (eK (.int 3)) (aCons (eK (.int 2)) (aNil)))) (aNil)))) (aCons (eTup (aCons (eTup (aCons (eK (.int 2)) (aCons (eK (.int 1)) (aNil)))) (aCons (eTup (aCons (eK (.int 2)) (aCons (eK (.int 1)) (aNil)))) (aNil)))) (aNil))))))) (sSeq (sSet 8 (eLst (aNil))) (sSeq (sFor (iSeq (eVar 7)) (bTp [bNm 9, bNm 10]) (sSet 8 (eOp2 dAdd (eOp2 dAdd (eVar 8) (eLc [12] (iRg gR1 (aCons (eK (.int 3)) (aNil))) (bNm 12) (Ev.ret true) (eCall m__law_try (aCons (eVar 12) (aCons (eVar 6) (aCons (eK .none) (aCons (eVar 9) (aCons (eVar 10) (aNil))))))))) (eLc [12] (iRg gR2 (aCons (eK (.int 3)) (aCons (eK (.int 7)) (aNil)))) (bNm 12) (Ev.ret true) (eCall m__law_try (aCons (eVar 12) (aCons (eVar 4) (aCons (eVar 5) (aCons (eVar 9) (aCons (eVar 10) (aNil))))))))))) (sSeq (sSet 11 (eTup (aCons (eTup (aCons (eK (.int 1)) (aCons (eK (.int 2)) (aNil)))) (aCons (eTup (aCons (eK (.int 1)) (aCons (eK (.int 3)) (aNil)))) (aCons (eTup (aCons (eK (.int 1)) (aCons (eK (.int 1)) (aNil)))) (aCons (eTup (aCons (eK (.int 1)) (aCons (eK (.int 1)) (aNil)))) (aCons (eTup (aCons (eK (.int 1)) (aCons (eK (.int 1)) (aNil)))) (aCons (eTup (aCons (eK (.int 1)) (aCons (eK (.int 1)) (aNil)))) (aNil))))))))) (sSeq (sSet 8 (eOp2 dAdd (eOp2 dAdd (eVar 8) (eLc [12] (iSeq (eTup (aCons (eK (.int 7)) (aCons (eK (.int 8)) (aCons (eK (.int 9)) (aNil)))))) (bNm 12) (Ev.ret true) (eCall m__law_try (aCons (eVar 12) (aCons (eVar 4) (aCons (eK .none) (aCons (eVar 11) (aCons (eTup (aCons (eK (.int 0)) (aCons (eK (.int 1)) (aNil)))) (aNil))))))))) (eLc [12] (iSeq (eTup (aCons (eK (.int 7)) (aCons (eK (.int 8)) (aCons (eK (.int 9)) (aNil)))))) (bNm 12) (Ev.ret true) (eCall m__law_try (aCons (eVar 12) (aCons (eVar 4) (aCons (eK .none) (aCons (eOp2 dRepT (eTup (aCons (eTup (aCons (eK (.int 1)) (aCons (eK (.int 1)) (aNil)))) (aNil))) (eK (.int 6))) (aCons (eTup (aNil)) (aNil)))))))))) (sSeq (sIf (tNotM (tTr (eCall (m__law_same 8) (aCons (eVar 8) (aCons (eRepL (eLst (aCons (eTup (aCons (eLst (aCons (eK (.str "Unfit")) (aCons (eK (.bool true)) (aNil)))) (aCons (eK .none) (aNil)))) (aNil))) (eB (on1 dLen) (aCons (eVar 8) (aNil)))) (aNil)))))) (sRet (eK (.bool false))) (sNx)) (sSeq (sSet 8 (eLst (aCons (eCall m__law_try (aCons (eK (.int 1)) (aCons (eVar 6) (aCons (eK .none) (aCons (eTup (aCons (eK (.int 0)) (aCons (eK (.int 1)) (aNil)))) (aCons (eTup (aCons (eK (.int 1)) (aCons (eK (.int 1)) (aNil)))) (aNil))))))) (aCons (eCall m__law_try (aCons (eK (.int 2)) (aCons (eTup (aNil)) (aCons (eK .none) (aCons (eTup (aCons (eK (.int 0)) (aCons (eK (.int 1)) (aNil)))) (aCons (eTup (aCons (eK (.int 1)) (aCons (eK (.int 1)) (aNil)))) (aNil))))))) (aCons (eCall m__law_try (aCons (eK (.int 4)) (aCons (eVar 4) (aCons (eVar 5) (aCons (eTup (aCons (eK (.int 1)) (aCons (eK (.int 2)) (aNil)))) (aCons (eTup (aCons (eK (.int 1)) (aCons (eK (.int 1)) (aNil)))) (aNil))))))) (aCons (eCall m__law_try (aCons (eK (.int 4)) (aCons (eVar 4) (aCons (eVar 4) (aCons (eTup (aCons (eK (.int 0)) (aCons (eK (.int 1)) (aNil)))) (aCons (eTup (aCons (eK (.int 1)) (aCons (eK (.int 1)) (aNil)))) (aNil))))))) (aNil))))))) (sSeq (sSet 8 (eOp2 dAdd (eVar 8) (eLst (aCons (eCall m__law_try (aCons (eK (.int 1)) (aCons (eTup (aNil)) (aCons (eK .none) (aCons (eTup (aCons (eK (.int 0)) (aCons (eK (.int 1)) (aNil)))) (aCons (eTup (aCons (eK (.int 0)) (aCons (eK (.int 1)) (aNil)))) (aNil))))))) (aNil))))) (sRet (eCall (m__law_same 8) (aCons (eVar 8) (aCons (eRepL (eLst (aCons (eTup (aCons (eLst (aCons (eK (.str "CanNot")) (aCons (eK (.bool true)) (aNil)))) (aCons (eK .none) (aNil)))) (aNil))) (eK (.int 5))) (aNil))))))))))))))))
def m_law : Fn := bodyF 12 b_law
theorem d_law (T : Txt K mg) : DefS P w K mg base 19 "law" s_law ["script"] m_law := by
  obtain ⟨f, fd, hm, Fu⟩ := T.d_law
  refine ⟨f, fd, fn_ok (k := 18) (m := 12) (body := b_law) Fu sc_law rfl rfl fun cdv A outer s H E hr => ?_, hm, Fu⟩
  exact es_cons (es_set (i := 1) sc_law.nd rfl (Or.inl rfl) (ev_call (o__law_box T) hr (by decide) (by rfl) (takes_of rfl rfl rfl rfl) (ea_cons (ev_call (o__law_cells T) hr (by decide) (by rfl) (takes_of rfl rfl rfl rfl) (ea_cons (ev_var (pv 0)) (ea_cons (ev_int) (ea_nil))) (hn := al_cons (al_cons (al_nil)))) (ea_cons (ev_int) (ea_nil))) (hn := al_cons (al_cons (al_nil))))) (es_cons (es_par (i := 2) (j := 3) rfl sc_law.nd rfl rfl (by decide) rfl rfl (ev_cmp (op_eqDD (hu64 hr)) (by rfl) (ev_callU' (pp := 0) (o__law_take T) hr (by decide) (by rfl) (takes_of rfl rfl rfl rfl) (ea_cons (ev_var (pv 1)) (ea_cons (ev_int) (ea_nil))) (al_cons (al_cons (al_nil)))) (ev_int)) (ev_callU' (pp := 0) (o__law_take T) hr (by decide) (by rfl) (takes_of rfl rfl rfl rfl) (ea_cons (ev_var (pv 1)) (ea_cons (ev_int) (ea_nil))) (al_cons (al_cons (al_nil)))) (by rfl)) (es_cons (es_if (et_cmp (op_ltD (hu64 hr)) (by rfl) (ev_var (pv 3)) (ev_int)) (es_one (es_ret (ev_if (et_cmp (op_eqDD (hu64 hr)) (by rfl) (ev_var (pv 3)) (ev_int)) (ev_call (o__law_curves_right T) hr (by decide) (by rfl) (takes_of rfl rfl rfl rfl) (ea_cons (ev_var (pv 2)) (ea_nil)) (hn := al_cons (al_nil))) (ev_call (o__law_rosters_right T) hr (by decide) (by rfl) (takes_of rfl rfl rfl rfl) (ea_cons (ev_var (pv 2)) (ea_nil)) (hn := al_cons (al_nil)))))) (es_nil)) (es_cons (es_tgt (js := [4, 5, 6]) (ev_tup (ea_cons (ev_tup (ea_cons (ev_tup (ea_cons (ev_int) (ea_cons (ev_int) (ea_nil)))) (ea_cons (ev_tup (ea_cons (ev_int) (ea_cons (ev_int) (ea_nil)))) (ea_cons (ev_tup (ea_cons (ev_int) (ea_cons (ev_int) (ea_nil)))) (ea_nil))))) (ea_cons (ev_tup (ea_cons (ev_tup (ea_cons (ev_int) (ea_nil))) (ea_nil))) (ea_cons (ev_tup (ea_cons (ev_tup (ea_cons (ev_int) (ea_cons (ev_int) (ea_nil)))) (ea_cons (ev_tup (ea_cons (ev_int) (ea_cons (ev_int) (ea_nil)))) (ea_nil)))) (ea_nil))))) (tb_tp rfl (tbs_cons (tb_nm (pg_name (i := 4) sc_law.nd rfl (Or.inr rfl))) (tbs_cons (tb_nm (pg_name (i := 5) sc_law.nd rfl (Or.inr rfl))) (tbs_cons (tb_nm (pg_name (i := 6) sc_law.nd rfl (Or.inr rfl))) (tbs_nil)))) rfl)) (es_cons (es_set (i := 7) sc_law.nd rfl (Or.inl rfl) (ev_lst (ea_cons (ev_tup (ea_cons (ev_tup (ea_cons (ev_int) (ea_cons (ev_int) (ea_nil)))) (ea_cons (ev_tup (ea_cons (ev_int) (ea_cons (ev_int) (ea_nil)))) (ea_nil)))) (ea_cons (ev_tup (ea_cons (ev_tup (ea_cons (ev_un un_negD (ev_int)) (ea_cons (ev_int) (ea_nil)))) (ea_cons (ev_tup (ea_cons (ev_int) (ea_cons (ev_int) (ea_nil)))) (ea_nil)))) (ea_cons (ev_tup (ea_cons (ev_tup (ea_cons (ev_int) (ea_cons (ev_int) (ea_nil)))) (ea_cons (ev_tup (ea_cons (ev_int) (ea_cons (ev_int) (ea_nil)))) (ea_nil)))) (ea_cons (ev_tup (ea_cons (ev_tup (ea_cons (ev_int) (ea_cons (ev_int) (ea_nil)))) (ea_cons (ev_tup (ea_cons (ev_int) (ea_cons (ev_int) (ea_nil)))) (ea_nil)))) (ea_nil))))))) (es_cons (es_set (i := 8) sc_law.nd rfl (Or.inl rfl) (ev_lst (ea_nil))) (es_cons (es_for (js := [9, 10]) (passes_of rfl) rfl (ei_seq (ev_var (pv 7))) (tb_tp rfl (tbs_cons (tb_nm (pg_name (i := 9) sc_law.nd rfl (Or.inr rfl))) (tbs_cons (tb_nm (pg_name (i := 10) sc_law.nd rfl (Or.inr rfl))) (tbs_nil))) rfl) (es_one (es_set (i := 8) sc_law.nd rfl (Or.inl rfl) (ev_op op_addD (ev_op op_addD (ev_var (pv 8)) (ev_lc (own := [("door", 12)]) rfl sc_law.nd (js := [12]) (blkOk_by (own := [("door", 12)]) (N := N_law) (sc := defScope s_law) (by decide +kernel)) (by decide) (ei_rng1 (by rfl) T.b_range (ea_cons (ev_int) (ea_nil))) (fun _ _ _ _ _ => tb_nm (pg_name (i := 12) sc_law.nd rfl (Or.inl rfl))) (fun _ _ _ _ _ => ets_nil) (fun _ _ _ _ _ => ev_call (o__law_try T) hr (by decide) (by rfl) takes0 (ea_cons (ev_var (pv 12)) (ea_cons (ev_var (pv 6)) (ea_cons (ev_non) (ea_cons (ev_var (pv 9)) (ea_cons (ev_var (pv 10)) (ea_nil)))))) (hn := al_cons (al_cons (al_cons (al_cons (al_cons (al_nil))))))))) (ev_lc (own := [("door", 12)]) rfl sc_law.nd (js := [12]) (blkOk_by (own := [("door", 12)]) (N := N_law) (sc := defScope s_law) (by decide +kernel)) (by decide) (ei_rng2 (by rfl) T.b_range (ea_cons (ev_int) (ea_cons (ev_int) (ea_nil)))) (fun _ _ _ _ _ => tb_nm (pg_name (i := 12) sc_law.nd rfl (Or.inl rfl))) (fun _ _ _ _ _ => ets_nil) (fun _ _ _ _ _ => ev_call (o__law_try T) hr (by decide) (by rfl) takes0 (ea_cons (ev_var (pv 12)) (ea_cons (ev_var (pv 4)) (ea_cons (ev_var (pv 5)) (ea_cons (ev_var (pv 9)) (ea_cons (ev_var (pv 10)) (ea_nil)))))) (hn := al_cons (al_cons (al_cons (al_cons (al_cons (al_nil)))))))))))) (es_cons (es_set (i := 11) sc_law.nd rfl (Or.inr rfl) (ev_tup (ea_cons (ev_tup (ea_cons (ev_int) (ea_cons (ev_int) (ea_nil)))) (ea_cons (ev_tup (ea_cons (ev_int) (ea_cons (ev_int) (ea_nil)))) (ea_cons (ev_tup (ea_cons (ev_int) (ea_cons (ev_int) (ea_nil)))) (ea_cons (ev_tup (ea_cons (ev_int) (ea_cons (ev_int) (ea_nil)))) (ea_cons (ev_tup (ea_cons (ev_int) (ea_cons (ev_int) (ea_nil)))) (ea_cons (ev_tup (ea_cons (ev_int) (ea_cons (ev_int) (ea_nil)))) (ea_nil))))))))) (es_cons (es_set (i := 8) sc_law.nd rfl (Or.inl rfl) (ev_op op_addD (ev_op op_addD (ev_var (pv 8)) (ev_lc (own := [("door", 12)]) rfl sc_law.nd (js := [12]) (blkOk_by (own := [("door", 12)]) (N := N_law) (sc := defScope s_law) (by decide +kernel)) (by decide) (ei_seq (ev_tup (ea_cons (ev_int) (ea_cons (ev_int) (ea_cons (ev_int) (ea_nil)))))) (fun _ _ _ _ _ => tb_nm (pg_name (i := 12) sc_law.nd rfl (Or.inl rfl))) (fun _ _ _ _ _ => ets_nil) (fun _ _ _ _ _ => ev_call (o__law_try T) hr (by decide) (by rfl) takes0 (ea_cons (ev_var (pv 12)) (ea_cons (ev_var (pv 4)) (ea_cons (ev_non) (ea_cons (ev_var (pv 11)) (ea_cons (ev_tup (ea_cons (ev_int) (ea_cons (ev_int) (ea_nil)))) (ea_nil)))))) (hn := al_cons (al_cons (al_cons (al_cons (al_cons (al_nil))))))))) (ev_lc (own := [("door", 12)]) rfl sc_law.nd (js := [12]) (blkOk_by (own := [("door", 12)]) (N := N_law) (sc := defScope s_law) (by decide +kernel)) (by decide) (ei_seq (ev_tup (ea_cons (ev_int) (ea_cons (ev_int) (ea_cons (ev_int) (ea_nil)))))) (fun _ _ _ _ _ => tb_nm (pg_name (i := 12) sc_law.nd rfl (Or.inl rfl))) (fun _ _ _ _ _ => ets_nil) (fun _ _ _ _ _ => ev_call (o__law_try T) hr (by decide) (by rfl) takes0 (ea_cons (ev_var (pv 12)) (ea_cons (ev_var (pv 4)) (ea_cons (ev_non) (ea_cons (ev_op op_repTD (ev_tup (ea_cons (ev_tup (ea_cons (ev_int) (ea_cons (ev_int) (ea_nil)))) (ea_nil))) (ev_int)) (ea_cons (ev_tup (ea_nil)) (ea_nil)))))) (hn := al_cons (al_cons (al_cons (al_cons (al_cons (al_nil)))))))))) (es_cons (es_if (et_not (et_truth (ev_call (o__law_same T 8) hr (by decide) (by rfl) (takes_of rfl rfl rfl rfl) (ea_cons (ev_var (pv 8)) (ea_cons (ev_repL (ev_lst (ea_cons (ev_tup (ea_cons (ev_lst (ea_cons (ev_str) (ea_cons (ev_bl) (ea_nil)))) (ea_cons (ev_non) (ea_nil)))) (ea_nil))) (ev_B cr_lenD (by rfl) T.b_len PySem.boot_len (ea_cons (ev_var (pv 8)) (ea_nil)))) (ea_nil))) (hn := al_cons (al_cons (al_nil)))))) (es_one (es_ret (ev_bl))) (es_nil)) (es_cons (es_set (i := 8) sc_law.nd rfl (Or.inl rfl) (ev_lst (ea_cons (ev_call (o__law_try T) hr (by decide) (by rfl) (takes_of rfl rfl rfl rfl) (ea_cons (ev_int) (ea_cons (ev_var (pv 6)) (ea_cons (ev_non) (ea_cons (ev_tup (ea_cons (ev_int) (ea_cons (ev_int) (ea_nil)))) (ea_cons (ev_tup (ea_cons (ev_int) (ea_cons (ev_int) (ea_nil)))) (ea_nil)))))) (hn := al_cons (al_cons (al_cons (al_cons (al_cons (al_nil))))))) (ea_cons (ev_call (o__law_try T) hr (by decide) (by rfl) (takes_of rfl rfl rfl rfl) (ea_cons (ev_int) (ea_cons (ev_tup (ea_nil)) (ea_cons (ev_non) (ea_cons (ev_tup (ea_cons (ev_int) (ea_cons (ev_int) (ea_nil)))) (ea_cons (ev_tup (ea_cons (ev_int) (ea_cons (ev_int) (ea_nil)))) (ea_nil)))))) (hn := al_cons (al_cons (al_cons (al_cons (al_cons (al_nil))))))) (ea_cons (ev_call (o__law_try T) hr (by decide) (by rfl) (takes_of rfl rfl rfl rfl) (ea_cons (ev_int) (ea_cons (ev_var (pv 4)) (ea_cons (ev_var (pv 5)) (ea_cons (ev_tup (ea_cons (ev_int) (ea_cons (ev_int) (ea_nil)))) (ea_cons (ev_tup (ea_cons (ev_int) (ea_cons (ev_int) (ea_nil)))) (ea_nil)))))) (hn := al_cons (al_cons (al_cons (al_cons (al_cons (al_nil))))))) (ea_cons (ev_call (o__law_try T) hr (by decide) (by rfl) (takes_of rfl rfl rfl rfl) (ea_cons (ev_int) (ea_cons (ev_var (pv 4)) (ea_cons (ev_var (pv 4)) (ea_cons (ev_tup (ea_cons (ev_int) (ea_cons (ev_int) (ea_nil)))) (ea_cons (ev_tup (ea_cons (ev_int) (ea_cons (ev_int) (ea_nil)))) (ea_nil)))))) (hn := al_cons (al_cons (al_cons (al_cons (al_cons (al_nil))))))) (ea_nil))))))) (es_cons (es_set (i := 8) sc_law.nd rfl (Or.inl rfl) (ev_op op_addD (ev_var (pv 8)) (ev_lst (ea_cons (ev_call (o__law_try T) hr (by decide) (by rfl) (takes_of rfl rfl rfl rfl) (ea_cons (ev_int) (ea_cons (ev_tup (ea_nil)) (ea_cons (ev_non) (ea_cons (ev_tup (ea_cons (ev_int) (ea_cons (ev_int) (ea_nil)))) (ea_cons (ev_tup (ea_cons (ev_int) (ea_cons (ev_int) (ea_nil)))) (ea_nil)))))) (hn := al_cons (al_cons (al_cons (al_cons (al_cons (al_nil))))))) (ea_nil))))) (es_one (es_ret (ev_call (o__law_same T 8) hr (by decide) (by rfl) (takes_of rfl rfl rfl rfl) (ea_cons (ev_var (pv 8)) (ea_cons (ev_repL (ev_lst (ea_cons (ev_tup (ea_cons (ev_lst (ea_cons (ev_str) (ea_cons (ev_bl) (ea_nil)))) (ea_cons (ev_non) (ea_nil)))) (ea_nil))) (ev_int)) (ea_nil))) (hn := al_cons (al_cons (al_nil)))))))))))))))))
theorem o_law (T : Txt K mg) : DefOk P w K mg base 19 "law" ["script"] m_law := (d_law T).ok (fun _ _ _ _ _ _ us hl => match us, hl with | [_], _ => rfl)
end

end P63

set_option Elab.async false
set_option linter.all false
set_option maxRecDepth 100000
set_option maxHeartbeats 4000000
set_option autoImplicit false
namespace P63
open PySem L2 PySem.Spec PyProof.Rows Ev
def r0 : S := (sTgt (bTp [(bNm 4), (bNm 5), (bNm 6)]) (eTup (aCons (eTup (aCons (eTup (aCons (eK (.int 0)) (aCons (eK (.int 1)) aNil))) (aCons (eTup (aCons (eK (.int 0)) (aCons (eK (.int 2)) aNil))) (aCons (eTup (aCons (eK (.int 1)) (aCons (eK (.int 2)) aNil))) aNil)))) (aCons (eTup (aCons (eTup (aCons (eK (.int 0)) aNil)) aNil)) (aCons (eTup (aCons (eTup (aCons (eK (.int 0)) (aCons (eK (.int 1)) aNil))) (aCons (eTup (aCons (eK (.int 1)) (aCons (eK (.int 1)) aNil))) aNil))) aNil)))))
def x0 : S := (sTgt (bTp [(bNm 4), (bNm 5), (bNm 6)]) (eTup (aCons (eTup (aCons (eTup (aCons (eK (.int 0)) (aCons (eK (.int 1)) aNil))) (aCons (eTup (aCons (eK (.int 0)) (aCons (eK (.int 2)) aNil))) (aCons (eTup (aCons (eK (.int 1)) (aCons (eK (.int 2)) aNil))) aNil)))) (aCons (eTup (aCons (eTup (aCons (eK (.int 0)) aNil)) aNil)) (aCons (eTup (aCons (eTup (aCons (eK (.int 0)) (aCons (eK (.int 1)) aNil))) (aCons (eTup (aCons (eK (.int 1)) (aCons (eK (.int 1)) aNil))) aNil))) aNil)))))
theorem p0 : RefB r0 x0 false := RefB.mk ((ref_tgt (ref_tup (ref_cons (ref_tup (ref_cons (ref_tup (ref_cons (ref_K _) (ref_cons (ref_K _) ref_nil))) (ref_cons (ref_tup (ref_cons (ref_K _) (ref_cons (ref_K _) ref_nil))) (ref_cons (ref_tup (ref_cons (ref_K _) (ref_cons (ref_K _) ref_nil))) ref_nil)))) (ref_cons (ref_tup (ref_cons (ref_tup (ref_cons (ref_K _) ref_nil)) ref_nil)) (ref_cons (ref_tup (ref_cons (ref_tup (ref_cons (ref_K _) (ref_cons (ref_K _) ref_nil))) (ref_cons (ref_tup (ref_cons (ref_K _) (ref_cons (ref_K _) ref_nil))) ref_nil))) ref_nil)))) (bd_tp (bds_cons (bd_nm (by decide)) (bds_cons (bd_nm (by decide)) (bds_cons (bd_nm (by decide)) bds_nil))))) : Ref _ _ r0 x0) (Nat.le_of_ble_eq_true rfl)
def r1 : S := (sSet 7 (eLst (aCons (eTup (aCons (eTup (aCons (eK (.int 1)) (aCons (eK (.int 2)) aNil))) (aCons (eTup (aCons (eK (.int 1)) (aCons (eK (.int 3)) aNil))) aNil))) (aCons (eTup (aCons (eTup (aCons (eOp1 dNeg (eK (.int 1))) (aCons (eK (.int 2)) aNil))) (aCons (eTup (aCons (eK (.int 1)) (aCons (eK (.int 2)) aNil))) aNil))) (aCons (eTup (aCons (eTup (aCons (eK (.int 1)) (aCons (eK (.int 2)) aNil))) (aCons (eTup (aCons (eK (.int 3)) (aCons (eK (.int 2)) aNil))) aNil))) (aCons (eTup (aCons (eTup (aCons (eK (.int 2)) (aCons (eK (.int 1)) aNil))) (aCons (eTup (aCons (eK (.int 2)) (aCons (eK (.int 1)) aNil))) aNil))) aNil))))))
def x1 : S := (sSet 7 (eLst (aCons (eTup (aCons (eTup (aCons (eK (.int 1)) (aCons (eK (.int 2)) aNil))) (aCons (eTup (aCons (eK (.int 1)) (aCons (eK (.int 3)) aNil))) aNil))) (aCons (eTup (aCons (eTup (aCons (eOp1 dNeg (eK (.int 1))) (aCons (eK (.int 2)) aNil))) (aCons (eTup (aCons (eK (.int 1)) (aCons (eK (.int 2)) aNil))) aNil))) (aCons (eTup (aCons (eTup (aCons (eK (.int 1)) (aCons (eK (.int 2)) aNil))) (aCons (eTup (aCons (eK (.int 3)) (aCons (eK (.int 2)) aNil))) aNil))) (aCons (eTup (aCons (eTup (aCons (eK (.int 2)) (aCons (eK (.int 1)) aNil))) (aCons (eTup (aCons (eK (.int 2)) (aCons (eK (.int 1)) aNil))) aNil))) aNil))))))
theorem p1 : RefB r1 x1 false := RefB.mk ((ref_set (ref_lst (ref_cons (ref_tup (ref_cons (ref_tup (ref_cons (ref_K _) (ref_cons (ref_K _) ref_nil))) (ref_cons (ref_tup (ref_cons (ref_K _) (ref_cons (ref_K _) ref_nil))) ref_nil))) (ref_cons (ref_tup (ref_cons (ref_tup (ref_cons (ref_op1 (ref_K _)) (ref_cons (ref_K _) ref_nil))) (ref_cons (ref_tup (ref_cons (ref_K _) (ref_cons (ref_K _) ref_nil))) ref_nil))) (ref_cons (ref_tup (ref_cons (ref_tup (ref_cons (ref_K _) (ref_cons (ref_K _) ref_nil))) (ref_cons (ref_tup (ref_cons (ref_K _) (ref_cons (ref_K _) ref_nil))) ref_nil))) (ref_cons (ref_tup (ref_cons (ref_tup (ref_cons (ref_K _) (ref_cons (ref_K _) ref_nil))) (ref_cons (ref_tup (ref_cons (ref_K _) (ref_cons (ref_K _) ref_nil))) ref_nil))) ref_nil))))) (by decide)) : Ref _ _ r1 x1) (Nat.le_of_ble_eq_true rfl)
def r2 : S := (sSet 8 (eLst aNil))
def x2 : S := (sSet 8 (eLst aNil))
theorem p2 : RefB r2 x2 false := RefB.mk ((ref_set (ref_lst ref_nil) (by decide)) : Ref _ _ r2 x2) (Nat.le_of_ble_eq_true rfl)
def r3 : S := (sFor (iSeq (eVar 7)) (bTp [(bNm 9), (bNm 10)]) (sSet 8 (eOp2 dAdd (eOp2 dAdd (eVar 8) (eLc [12] (iRg gR1 (aCons (eK (.int 3)) aNil)) (bNm 12) (Ev.ret true) (eCall m__law_try (aCons (eVar 12) (aCons (eVar 6) (aCons (eK .none) (aCons (eVar 9) (aCons (eVar 10) aNil)))))))) (eLc [12] (iRg gR2 (aCons (eK (.int 3)) (aCons (eK (.int 7)) aNil))) (bNm 12) (Ev.ret true) (eCall m__law_try (aCons (eVar 12) (aCons (eVar 4) (aCons (eVar 5) (aCons (eVar 9) (aCons (eVar 10) aNil))))))))))
def x3 : S := (sForX (iSeq (eVar 7)) (bTp [(bNm 9), (bNm 10)]) (sSet 8 (eOp2 dAdd (eOp2 dAdd (eVar 8) (eLcX [12] (iRg gR1 (aCons (eK (.int 3)) aNil)) (bNm 12) (Ev.ret true) (eCall m__law_try (aCons (eVar 12) (aCons (eVar 6) (aCons (eK .none) (aCons (eVar 9) (aCons (eVar 10) aNil)))))))) (eLcX [12] (iRg gR2 (aCons (eK (.int 3)) (aCons (eK (.int 7)) aNil))) (bNm 12) (Ev.ret true) (eCall m__law_try (aCons (eVar 12) (aCons (eVar 4) (aCons (eVar 5) (aCons (eVar 9) (aCons (eVar 10) aNil))))))))))
theorem p3 : RefB r3 x3 false := RefB.mk ((ref_for (ref_iSeq (ref_var _)) (ref_set (ref_op2 (ref_op2 (ref_var _) (ref_lc (ref_iRg (ref_cons (ref_K _) ref_nil)) (ref_ret _) (ref_call (ref_cons (ref_var _) (ref_cons (ref_var _) (ref_cons (ref_K _) (ref_cons (ref_var _) (ref_cons (ref_var _) ref_nil)))))) (bd_nm (by decide)) (by decide))) (ref_lc (ref_iRg (ref_cons (ref_K _) (ref_cons (ref_K _) ref_nil))) (ref_ret _) (ref_call (ref_cons (ref_var _) (ref_cons (ref_var _) (ref_cons (ref_var _) (ref_cons (ref_var _) (ref_cons (ref_var _) ref_nil)))))) (bd_nm (by decide)) (by decide))) (by decide)) (bd_tp (bds_cons (bd_nm (by decide)) (bds_cons (bd_nm (by decide)) bds_nil)))) : Ref _ _ r3 x3) (Nat.le_of_ble_eq_true rfl)
def r4 : S := (sSet 11 (eTup (aCons (eTup (aCons (eK (.int 1)) (aCons (eK (.int 2)) aNil))) (aCons (eTup (aCons (eK (.int 1)) (aCons (eK (.int 3)) aNil))) (aCons (eTup (aCons (eK (.int 1)) (aCons (eK (.int 1)) aNil))) (aCons (eTup (aCons (eK (.int 1)) (aCons (eK (.int 1)) aNil))) (aCons (eTup (aCons (eK (.int 1)) (aCons (eK (.int 1)) aNil))) (aCons (eTup (aCons (eK (.int 1)) (aCons (eK (.int 1)) aNil))) aNil))))))))
def x4 : S := (sSet 11 (eTup (aCons (eTup (aCons (eK (.int 1)) (aCons (eK (.int 2)) aNil))) (aCons (eTup (aCons (eK (.int 1)) (aCons (eK (.int 3)) aNil))) (aCons (eTup (aCons (eK (.int 1)) (aCons (eK (.int 1)) aNil))) (aCons (eTup (aCons (eK (.int 1)) (aCons (eK (.int 1)) aNil))) (aCons (eTup (aCons (eK (.int 1)) (aCons (eK (.int 1)) aNil))) (aCons (eTup (aCons (eK (.int 1)) (aCons (eK (.int 1)) aNil))) aNil))))))))
theorem p4 : RefB r4 x4 false := RefB.mk ((ref_set (ref_tup (ref_cons (ref_tup (ref_cons (ref_K _) (ref_cons (ref_K _) ref_nil))) (ref_cons (ref_tup (ref_cons (ref_K _) (ref_cons (ref_K _) ref_nil))) (ref_cons (ref_tup (ref_cons (ref_K _) (ref_cons (ref_K _) ref_nil))) (ref_cons (ref_tup (ref_cons (ref_K _) (ref_cons (ref_K _) ref_nil))) (ref_cons (ref_tup (ref_cons (ref_K _) (ref_cons (ref_K _) ref_nil))) (ref_cons (ref_tup (ref_cons (ref_K _) (ref_cons (ref_K _) ref_nil))) ref_nil))))))) (by decide)) : Ref _ _ r4 x4) (Nat.le_of_ble_eq_true rfl)
def r5 : S := (sSet 8 (eOp2 dAdd (eOp2 dAdd (eVar 8) (eLc [12] (iSeq (eTup (aCons (eK (.int 7)) (aCons (eK (.int 8)) (aCons (eK (.int 9)) aNil))))) (bNm 12) (Ev.ret true) (eCall m__law_try (aCons (eVar 12) (aCons (eVar 4) (aCons (eK .none) (aCons (eVar 11) (aCons (eTup (aCons (eK (.int 0)) (aCons (eK (.int 1)) aNil))) aNil)))))))) (eLc [12] (iSeq (eTup (aCons (eK (.int 7)) (aCons (eK (.int 8)) (aCons (eK (.int 9)) aNil))))) (bNm 12) (Ev.ret true) (eCall m__law_try (aCons (eVar 12) (aCons (eVar 4) (aCons (eK .none) (aCons (eOp2 dRepT (eTup (aCons (eTup (aCons (eK (.int 1)) (aCons (eK (.int 1)) aNil))) aNil)) (eK (.int 6))) (aCons (eTup aNil) aNil)))))))))
def x5 : S := (sSet 8 (eOp2 dAdd (eOp2 dAdd (eVar 8) (eLcX [12] (iSeq (eTup (aCons (eK (.int 7)) (aCons (eK (.int 8)) (aCons (eK (.int 9)) aNil))))) (bNm 12) (Ev.ret true) (eCall m__law_try (aCons (eVar 12) (aCons (eVar 4) (aCons (eK .none) (aCons (eVar 11) (aCons (eTup (aCons (eK (.int 0)) (aCons (eK (.int 1)) aNil))) aNil)))))))) (eLcX [12] (iSeq (eTup (aCons (eK (.int 7)) (aCons (eK (.int 8)) (aCons (eK (.int 9)) aNil))))) (bNm 12) (Ev.ret true) (eCall m__law_try (aCons (eVar 12) (aCons (eVar 4) (aCons (eK .none) (aCons (eOp2 dRepT (eTup (aCons (eTup (aCons (eK (.int 1)) (aCons (eK (.int 1)) aNil))) aNil)) (eK (.int 6))) (aCons (eTup aNil) aNil)))))))))
theorem p5 : RefB r5 x5 false := RefB.mk ((ref_set (ref_op2 (ref_op2 (ref_var _) (ref_lc (ref_iSeq (ref_tup (ref_cons (ref_K _) (ref_cons (ref_K _) (ref_cons (ref_K _) ref_nil))))) (ref_ret _) (ref_call (ref_cons (ref_var _) (ref_cons (ref_var _) (ref_cons (ref_K _) (ref_cons (ref_var _) (ref_cons (ref_tup (ref_cons (ref_K _) (ref_cons (ref_K _) ref_nil))) ref_nil)))))) (bd_nm (by decide)) (by decide))) (ref_lc (ref_iSeq (ref_tup (ref_cons (ref_K _) (ref_cons (ref_K _) (ref_cons (ref_K _) ref_nil))))) (ref_ret _) (ref_call (ref_cons (ref_var _) (ref_cons (ref_var _) (ref_cons (ref_K _) (ref_cons (ref_op2 (ref_tup (ref_cons (ref_tup (ref_cons (ref_K _) (ref_cons (ref_K _) ref_nil))) ref_nil)) (ref_K _)) (ref_cons (ref_tup ref_nil) ref_nil)))))) (bd_nm (by decide)) (by decide))) (by decide)) : Ref _ _ r5 x5) (Nat.le_of_ble_eq_true rfl)
def r6 : S := (sIf (tNotM (tTr (eCall (m__law_same 8) (aCons (eVar 8) (aCons (eRepL (eLst (aCons (eTup (aCons (eLst (aCons (eK (.str "Unfit")) (aCons (eK (.bool true)) aNil))) (aCons (eK .none) aNil))) aNil)) (eB (on1 dLen) (aCons (eVar 8) aNil))) aNil))))) (sRet (eK (.bool false))) sNx)
def x6 : S := (sIf (tNotM (tTr (eCall (m__law_same 8) (aCons (eVar 8) (aCons (eRepL (eLst (aCons (eTup (aCons (eLst (aCons (eK (.str "Unfit")) (aCons (eK (.bool true)) aNil))) (aCons (eK .none) aNil))) aNil)) (eB (on1 dLen) (aCons (eVar 8) aNil))) aNil))))) (sRet (eK (.bool false))) sNx)
theorem p6 : RefB r6 x6 false := RefB.mk ((ref_sIf (ref_not (ref_tTr (ref_call (ref_cons (ref_var _) (ref_cons (ref_repL (ref_lst (ref_cons (ref_tup (ref_cons (ref_lst (ref_cons (ref_K _) (ref_cons (ref_K _) ref_nil))) (ref_cons (ref_K _) ref_nil))) ref_nil)) (ref_B (ref_cons (ref_var _) ref_nil))) ref_nil))))) (ref_sRet (ref_K _)) ref_nx) : Ref _ _ r6 x6) (Nat.le_of_ble_eq_true rfl)
def r7 : S := (sSet 8 (eLst (aCons (eCall m__law_try (aCons (eK (.int 1)) (aCons (eVar 6) (aCons (eK .none) (aCons (eTup (aCons (eK (.int 0)) (aCons (eK (.int 1)) aNil))) (aCons (eTup (aCons (eK (.int 1)) (aCons (eK (.int 1)) aNil))) aNil)))))) (aCons (eCall m__law_try (aCons (eK (.int 2)) (aCons (eTup aNil) (aCons (eK .none) (aCons (eTup (aCons (eK (.int 0)) (aCons (eK (.int 1)) aNil))) (aCons (eTup (aCons (eK (.int 1)) (aCons (eK (.int 1)) aNil))) aNil)))))) (aCons (eCall m__law_try (aCons (eK (.int 4)) (aCons (eVar 4) (aCons (eVar 5) (aCons (eTup (aCons (eK (.int 1)) (aCons (eK (.int 2)) aNil))) (aCons (eTup (aCons (eK (.int 1)) (aCons (eK (.int 1)) aNil))) aNil)))))) (aCons (eCall m__law_try (aCons (eK (.int 4)) (aCons (eVar 4) (aCons (eVar 4) (aCons (eTup (aCons (eK (.int 0)) (aCons (eK (.int 1)) aNil))) (aCons (eTup (aCons (eK (.int 1)) (aCons (eK (.int 1)) aNil))) aNil)))))) aNil))))))
def x7 : S := (sSet 8 (eLst (aCons (eCall m__law_try (aCons (eK (.int 1)) (aCons (eVar 6) (aCons (eK .none) (aCons (eTup (aCons (eK (.int 0)) (aCons (eK (.int 1)) aNil))) (aCons (eTup (aCons (eK (.int 1)) (aCons (eK (.int 1)) aNil))) aNil)))))) (aCons (eCall m__law_try (aCons (eK (.int 2)) (aCons (eTup aNil) (aCons (eK .none) (aCons (eTup (aCons (eK (.int 0)) (aCons (eK (.int 1)) aNil))) (aCons (eTup (aCons (eK (.int 1)) (aCons (eK (.int 1)) aNil))) aNil)))))) (aCons (eCall m__law_try (aCons (eK (.int 4)) (aCons (eVar 4) (aCons (eVar 5) (aCons (eTup (aCons (eK (.int 1)) (aCons (eK (.int 2)) aNil))) (aCons (eTup (aCons (eK (.int 1)) (aCons (eK (.int 1)) aNil))) aNil)))))) (aCons (eCall m__law_try (aCons (eK (.int 4)) (aCons (eVar 4) (aCons (eVar 4) (aCons (eTup (aCons (eK (.int 0)) (aCons (eK (.int 1)) aNil))) (aCons (eTup (aCons (eK (.int 1)) (aCons (eK (.int 1)) aNil))) aNil)))))) aNil))))))
theorem p7 : RefB r7 x7 false := RefB.mk ((ref_set (ref_lst (ref_cons (ref_call (ref_cons (ref_K _) (ref_cons (ref_var _) (ref_cons (ref_K _) (ref_cons (ref_tup (ref_cons (ref_K _) (ref_cons (ref_K _) ref_nil))) (ref_cons (ref_tup (ref_cons (ref_K _) (ref_cons (ref_K _) ref_nil))) ref_nil)))))) (ref_cons (ref_call (ref_cons (ref_K _) (ref_cons (ref_tup ref_nil) (ref_cons (ref_K _) (ref_cons (ref_tup (ref_cons (ref_K _) (ref_cons (ref_K _) ref_nil))) (ref_cons (ref_tup (ref_cons (ref_K _) (ref_cons (ref_K _) ref_nil))) ref_nil)))))) (ref_cons (ref_call (ref_cons (ref_K _) (ref_cons (ref_var _) (ref_cons (ref_var _) (ref_cons (ref_tup (ref_cons (ref_K _) (ref_cons (ref_K _) ref_nil))) (ref_cons (ref_tup (ref_cons (ref_K _) (ref_cons (ref_K _) ref_nil))) ref_nil)))))) (ref_cons (ref_call (ref_cons (ref_K _) (ref_cons (ref_var _) (ref_cons (ref_var _) (ref_cons (ref_tup (ref_cons (ref_K _) (ref_cons (ref_K _) ref_nil))) (ref_cons (ref_tup (ref_cons (ref_K _) (ref_cons (ref_K _) ref_nil))) ref_nil)))))) ref_nil))))) (by decide)) : Ref _ _ r7 x7) (Nat.le_of_ble_eq_true rfl)
def r8 : S := (sSet 8 (eOp2 dAdd (eVar 8) (eLst (aCons (eCall m__law_try (aCons (eK (.int 1)) (aCons (eTup aNil) (aCons (eK .none) (aCons (eTup (aCons (eK (.int 0)) (aCons (eK (.int 1)) aNil))) (aCons (eTup (aCons (eK (.int 0)) (aCons (eK (.int 1)) aNil))) aNil)))))) aNil))))
def x8 : S := (sSet 8 (eOp2 dAdd (eVar 8) (eLst (aCons (eCall m__law_try (aCons (eK (.int 1)) (aCons (eTup aNil) (aCons (eK .none) (aCons (eTup (aCons (eK (.int 0)) (aCons (eK (.int 1)) aNil))) (aCons (eTup (aCons (eK (.int 0)) (aCons (eK (.int 1)) aNil))) aNil)))))) aNil))))
theorem p8 : RefB r8 x8 false := RefB.mk ((ref_set (ref_op2 (ref_var _) (ref_lst (ref_cons (ref_call (ref_cons (ref_K _) (ref_cons (ref_tup ref_nil) (ref_cons (ref_K _) (ref_cons (ref_tup (ref_cons (ref_K _) (ref_cons (ref_K _) ref_nil))) (ref_cons (ref_tup (ref_cons (ref_K _) (ref_cons (ref_K _) ref_nil))) ref_nil)))))) ref_nil))) (by decide)) : Ref _ _ r8 x8) (Nat.le_of_ble_eq_true rfl)
def r9 : S := (sRet (eCall (m__law_same 8) (aCons (eVar 8) (aCons (eRepL (eLst (aCons (eTup (aCons (eLst (aCons (eK (.str "CanNot")) (aCons (eK (.bool true)) aNil))) (aCons (eK .none) aNil))) aNil)) (eK (.int 5))) aNil))))
def x9 : S := (sRet (eCall (m__law_same 8) (aCons (eVar 8) (aCons (eRepL (eLst (aCons (eTup (aCons (eLst (aCons (eK (.str "CanNot")) (aCons (eK (.bool true)) aNil))) (aCons (eK .none) aNil))) aNil)) (eK (.int 5))) aNil))))
theorem p9 : RefB r9 x9 false := RefB.mk ((ref_sRet (ref_call (ref_cons (ref_var _) (ref_cons (ref_repL (ref_lst (ref_cons (ref_tup (ref_cons (ref_lst (ref_cons (ref_K _) (ref_cons (ref_K _) ref_nil))) (ref_cons (ref_K _) ref_nil))) ref_nil)) (ref_K _)) ref_nil)))) : Ref _ _ r9 x9) (Nat.le_of_ble_eq_true rfl)
def bR : S := (sSeq r0 (sSeq r1 (sSeq r2 (sSeq r3 (sSeq r4 (sSeq r5 (sSeq r6 (sSeq r7 (sSeq r8 r9)))))))))
def xR : S := (sSeq x0 (sSeq x1 (sSeq x2 (sSeq x3 (sSeq x4 (sSeq x5 (sSeq x6 (sSeq x7 (sSeq x8 x9)))))))))
theorem pR : RefN 10 bR xR false := (refB_seq p0 (refB_seq p1 (refB_seq p2 (refB_seq p3 (refB_seq p4 (refB_seq p5 (refB_seq p6 (refB_seq p7 (refB_seq p8 (refN_one p9))))))))))
theorem box_eq : m__law_box = boxM 19308630 := rfl
theorem cells_eq : m__law_cells = cellsM := rfl
theorem take_eq : m__law_take = takeM := rfl
theorem b_eq : b_law = sSeq (sSet 1 (eCall (boxM 19308630) (aCons (eCall cellsM (aCons (eVar 0) (aCons (eK (.int 1)) aNil))) (aCons (eK (.int 0)) aNil)))) (sSeq (sPar 2 3 (eOp2 dEq (eCallU takeM 0 (aCons (eVar 1) (aCons (eK (.int 2)) aNil))) (eK (.int 0))) (eCallU takeM 0 (aCons (eVar 1) (aCons (eK (.int 3)) aNil)))) (sSeq (sIf (tBool (eOp2 dLt (eVar 3) (eK (.int 2)))) (sRet (eIf (tBool (eOp2 dEq (eVar 3) (eK (.int 0)))) (eCall m__law_curves_right (aCons (eVar 2) aNil)) (eCall m__law_rosters_right (aCons (eVar 2) aNil)))) sNx) bR)) := by
  rw [← box_eq, ← cells_eq, ← take_eq]
  delta b_law bR r0 r1 r2 r3 r4 r5 r6 r7 r8 r9
  rfl
end P63

set_option Elab.async false
set_option linter.all false
set_option maxRecDepth 100000
set_option maxHeartbeats 4000000
set_option autoImplicit false
namespace P63
open PySem L2 PySem.Spec PyProof.Rows Ev
theorem c_ok0 : okT (m__law_curves_right [.val (.bool false)]) = true := by decide +kernel
theorem c_ok1 : okT (m__law_curves_right [.val (.bool true)]) = true := by decide +kernel
theorem r_ok0 : okT (m__law_rosters_right [.val (.bool false)]) = true := by decide +kernel
theorem r_ok1 : okT (m__law_rosters_right [.val (.bool true)]) = true := by decide +kernel
theorem x_ok : okF (xR (.un :: .un :: .un :: .val (.int 2) :: List.replicate 9 .un)) = true := by decide +kernel
theorem c_ok (f : Bool) : okT (m__law_curves_right [.val (.bool f)]) = true := by
  cases f
  · exact c_ok0
  · exact c_ok1
theorem r_ok (f : Bool) : okT (m__law_rosters_right [.val (.bool f)]) = true := by
  cases f
  · exact r_ok0
  · exact r_ok1
end P63

set_option Elab.async false
set_option linter.all false
set_option maxRecDepth 100000
set_option maxHeartbeats 4000000
set_option autoImplicit false
namespace P63
open PySem L2 PySem.Spec PyProof.Rows Ev
theorem law_true (ns : List Int) (hl : ns.length ≤ 63) (hb : ∀ z ∈ ns, Builtin.Int.intBits z ≤ 1048576) : ∃ ρ', m_law [.val (.list (ns.map PyData.int))] = .ok (.val (.bool true)) ρ' := by
  obtain ⟨s0, s1, f, part, p0, p1, st⟩ := start3 (K := 19308630) (by decide) (by decide) (m := 9) (n1 := 2) (n2 := 3) hl hb (by decide) (by decide) (by decide) (by decide)
  have key : ∀ ρ', (sIf (tBool (eOp2 dLt (eVar 3) (eK (.int 2)))) (sRet (eIf (tBool (eOp2 dEq (eVar 3) (eK (.int 0)))) (eCall m__law_curves_right (aCons (eVar 2) aNil)) (eCall m__law_rosters_right (aCons (eVar 2) aNil)))) sNx) (s0 :: s1 :: .val (.bool f) :: .val (.int part) :: List.replicate 9 .un) = .ok (.rt (.val (.bool true))) ρ' → ∃ ρ', m_law [.val (.list (ns.map PyData.int))] = .ok (.val (.bool true)) ρ' := fun ρ' e => by
    have q := st (sSeq (sIf (tBool (eOp2 dLt (eVar 3) (eK (.int 2)))) (sRet (eIf (tBool (eOp2 dEq (eVar 3) (eK (.int 0)))) (eCall m__law_curves_right (aCons (eVar 2) aNil)) (eCall m__law_rosters_right (aCons (eVar 2) aNil)))) sNx) bR)
    rw [← b_eq] at q
    have q2 : b_law ([.val (.list (ns.map PyData.int))] ++ List.replicate 12 .un) = .ok (.rt (.val (.bool true))) ρ' := by
      refine q.trans ?_
      unfold sSeq
      rw [e]
    exact ⟨_, body_rt q2⟩
  have c3 : part = 0 ∨ part = 1 ∨ part = 2 := by omega
  rcases c3 with rfl | rfl | rfl
  · obtain ⟨ρ', e⟩ := okT_ok (c_ok f)
    generalize hF : m__law_curves_right = F at e key
    refine key (s0 :: s1 :: .val (.bool f) :: .val (.int 0) :: List.replicate 9 .un) ?_
    simp [sIf, sRet, eIf, tBool, eOp2, eCall, aCons, aNil, bnd, eVar, eK, Ev.ret, lift, pin, der, escs, esc, dLt, cmpBy, dEq_int, outRV, e, Rt.rv, rtOf]
  · obtain ⟨ρ', e⟩ := okT_ok (r_ok f)
    generalize hF : m__law_rosters_right = F at e key
    refine key (s0 :: s1 :: .val (.bool f) :: .val (.int 1) :: List.replicate 9 .un) ?_
    simp [sIf, sRet, eIf, tBool, eOp2, eCall, aCons, aNil, bnd, eVar, eK, Ev.ret, lift, pin, der, escs, esc, dLt, cmpBy, dEq_int, outRV, e, Rt.rv, rtOf]
  · obtain ⟨ρ1, e⟩ := okF_ok x_ok
    obtain ⟨r1, rfl, kk⟩ := pR _ _ _ e
    obtain ⟨u', e2, _⟩ := kk s0 s1 (.val (.bool f)) 0 (fun z => by cases z)
    have q := st (sSeq (sIf (tBool (eOp2 dLt (eVar 3) (eK (.int 2)))) (sRet (eIf (tBool (eOp2 dEq (eVar 3) (eK (.int 0)))) (eCall m__law_curves_right (aCons (eVar 2) aNil)) (eCall m__law_rosters_right (aCons (eVar 2) aNil)))) sNx) bR)
    rw [← b_eq] at q
    have nx : (sIf (tBool (eOp2 dLt (eVar 3) (eK (.int 2)))) (sRet (eIf (tBool (eOp2 dEq (eVar 3) (eK (.int 0)))) (eCall m__law_curves_right (aCons (eVar 2) aNil)) (eCall m__law_rosters_right (aCons (eVar 2) aNil)))) sNx) (s0 :: s1 :: .val (.bool f) :: .val (.int 2) :: List.replicate 9 .un) = .ok .nx (s0 :: s1 :: .val (.bool f) :: .val (.int 2) :: List.replicate 9 .un) := by
      simp [sIf, sNx, tBool, eOp2, bnd, eVar, eK, Ev.ret, lift, pin, der, dLt, cmpBy, outRV]
    rw [seq_nx nx, e2] at q
    exact ⟨_, body_rt q⟩
end P63

set_option Elab.async false
set_option linter.all false
set_option maxRecDepth 100000
set_option maxHeartbeats 4000000
set_option autoImplicit false
namespace P63
open PySem L2 PySem.Spec PyProof.Rows Ev
def spLaw (K : PySem.W.Frag) : Sp := fun vs H Q _ => ∃ (a : Addr) (ns : List Int), vs = [.ref a] ∧ SqL K H a (ns.map V.int) ∧ ns.length ≤ 63 ∧ (∀ z ∈ ns, Builtin.Int.intBits z ≤ 1048576) ∧ ∀ H', Q (.bl true) H'
theorem fn_law {P : Program} {w : World} {K : PySem.W.Frag} {mg : Str → Option Value} {base : Heap} {k : Nat} {f : Addr} {fd : FuncData} (h : FnOk P w K mg base (L2.CX P w) k f fd ["script"] (spOf K mg 1 m_law)) : FnOk P w K mg base (L2.CX P w) k f fd ["script"] (spLaw K) := by
  have key : ∀ vs H Q E, spLaw K vs H Q E → spOf K mg 1 m_law vs H Q E := fun vs H Q E ⟨a, ns, e, hs, hl, hb, k⟩ => by
    subst e
    refine ⟨rfl, fun _ => False, [.val (.list (ns.map PyData.int))], rel_vals (vs := [.ref a]) (ds := [.list (ns.map PyData.int)]) (fun _ z => z.elim) (.cons (.lst (sqL_mono (fun b o q => hid_iff.mpr ⟨q, id⟩) hs) (dps_ints _)) .nil), par_vals [.list (ns.map PyData.int)], ?_⟩
    obtain ⟨ρ', e⟩ := law_true ns hl hb
    rw [e]
    intro v H' P r
    cases (show Dp K _ v (.bool true) from r)
    exact k H'
  exact ⟨fun vs H Q E z => h.len vs H Q E (key vs H Q E z), fun A outer s H args us vs Q E hr e0 hb r z => h.run A outer s H args us vs Q E hr e0 hb r (key vs H Q E z)⟩
set_option maxHeartbeats 40000000 in
theorem all_mk {P : Program} {w : World} {K : PySem.W.Frag} {h : Heap} {mg : Str → Option Value} {fa f0 f1 f2 f3 f4 f5 f6 f7 f8 f9 f10 f11 f12 f13 f14 f15 f16 f17 f18 f19 f20 f21 f22 f23 f24 f25 f26 f27 f28 f29 f30 f31 f32 f33 f34 f35 f36 f37 f38 f39 f40 f41 f42 f43 f44 f45 f46 f47 f48 f49 f50 f51 f52 f53 f54 f55 f56 f57 f58 f59 f60 f61 f62 f63 f64 f65 f66 f67 f68 f69 f70 f71 f72 f73 x0 x1 : Addr} (X : K.In h) (G : h.Ns mainGlobals mg) (hfa : mg "law" = some (.ref fa))
    {kc0 : Addr} {kd0 : Option Addr} {kn0 : Nat} {ks0 : Array (Option Value)} {kt0_0 kt0_1 : Tok} {kc1 : Addr} {kd1 : Option Addr} {kn1 : Nat} {ks1 : Array (Option Value)} {kt1_0 kt1_1 : Tok} {kc2 : Addr} {kd2 : Option Addr} {kn2 : Nat} {ks2 : Array (Option Value)} {kt2_0 kt2_1 : Tok}
    {od0 od1 od2 od3 od4 od5 od6 od7 od8 od9 od10 od11 od12 od13 od14 od15 od16 od17 od18 od19 od20 od21 od22 od23 od24 od25 od26 od27 od28 od29 od30 od31 od32 od33 od34 od35 od36 od37 od38 od39 od40 od41 od42 od43 od44 od45 od46 od47 od48 od49 od50 od51 od52 od53 od54 od55 od56 od57 od58 od59 od60 od61 od62 od63 od64 od65 od66 od67 od68 od69 od70 od71 od72 od73 an0 an1 an2 an3 an4 an5 an6 an7 an8 an9 an10 an11 an12 an13 an14 an15 an16 an17 an18 an19 an20 an21 an22 an23 an24 an25 an26 an27 an28 an29 an30 an31 an32 an33 an34 an35 an36 an37 an38 an39 an40 an41 an42 an43 an44 an45 an46 an47 an48 an49 an50 an51 an52 an53 an54 an55 an56 an57 an58 an59 an60 an61 an62 an63 an64 an65 an66 an67 an68 an69 an70 an71 an72 an73 : Option Addr} {sl0 sl1 sl2 sl3 sl4 sl5 sl6 sl7 sl8 sl9 sl10 sl11 sl12 sl13 sl14 sl15 sl16 sl17 sl18 sl19 sl20 sl21 sl22 sl23 sl24 sl25 sl26 sl27 sl28 sl29 sl30 sl31 sl32 sl33 sl34 sl35 sl36 sl37 sl38 sl39 sl40 sl41 sl42 sl43 sl44 sl45 sl46 sl47 sl48 sl49 sl50 sl51 sl52 sl53 sl54 sl55 sl56 sl57 sl58 sl59 sl60 sl61 sl62 sl63 sl64 sl65 sl66 sl67 sl68 sl69 sl70 sl71 sl72 sl73 : Array (Option Value)} {oc0 oc1 oc2 oc3 oc4 oc5 oc6 oc7 oc8 oc9 oc10 oc11 oc12 oc13 oc14 oc15 oc16 oc17 oc18 oc19 oc20 oc21 oc22 oc23 oc24 oc25 oc26 oc27 oc28 oc29 oc30 oc31 oc32 oc33 oc34 oc35 oc36 oc37 oc38 oc39 oc40 oc41 oc42 oc43 oc44 oc45 oc46 oc47 oc48 oc49 oc50 oc51 oc52 oc53 oc54 oc55 oc56 oc57 oc58 oc59 oc60 oc61 oc62 oc63 oc64 oc65 oc66 oc67 oc68 oc69 oc70 oc71 oc72 oc73 kV0 kV1 kV2 kV3 kV4 kV5 kV6 kV7 kV8 kV9 kV10 kV11 kV12 kV13 kV14 kV15 kV16 kV17 kV18 kV19 kV20 kV21 kV22 kV23 kV24 kV25 kV26 kV27 kV28 kV29 kV30 kV31 kV32 kV33 kV34 kV35 kV36 kV37 kV38 kV39 kV40 kV41 kV42 kV43 kV44 kV45 kV46 kV47 kV48 kV49 kV50 kV51 kV52 kV53 kV54 kV55 kV56 kV57 kV58 kV59 kV60 kV61 kV62 kV63 kV64 kV65 kV66 kV67 kV68 kV69 kV70 kV71 kV72 kV73 dc0 dc1 dc2 dc3 dc4 dc5 dc6 dc7 dc8 dc9 dc10 dc11 dc12 dc13 dc14 dc15 dc16 dc17 dc18 dc19 dc20 dc21 dc22 dc23 dc24 dc25 dc26 dc27 dc28 dc29 dc30 dc31 dc32 dc33 dc34 dc35 dc36 dc37 dc38 dc39 dc40 dc41 dc42 dc43 dc44 dc45 dc46 dc47 dc48 dc49 dc50 dc51 dc52 dc53 dc54 dc55 dc56 dc57 dc58 dc59 dc60 dc61 dc62 dc63 dc64 dc65 dc66 dc67 dc68 dc69 dc70 dc71 dc72 dc73 pm0 pm1 pm2 pm3 pm4 pm5 pm6 pm7 pm8 pm9 pm10 pm11 pm12 pm13 pm14 pm15 pm16 pm17 pm18 pm19 pm20 pm21 pm22 pm23 pm24 pm25 pm26 pm27 pm28 pm29 pm30 pm31 pm32 pm33 pm34 pm35 pm36 pm37 pm38 pm39 pm40 pm41 pm42 pm43 pm44 pm45 pm46 pm47 pm48 pm49 pm50 pm51 pm52 pm53 pm54 pm55 pm56 pm57 pm58 pm59 pm60 pm61 pm62 pm63 pm64 pm65 pm66 pm67 pm68 pm69 pm70 pm71 pm72 pm73 cd0 cd1 cd2 cd3 cd4 cd5 cd6 cd7 cd8 cd9 cd10 cd11 cd12 cd13 cd14 cd15 cd16 cd17 cd18 cd19 cd20 cd21 cd22 cd23 cd24 cd25 cd26 cd27 cd28 cd29 cd30 cd31 cd32 cd33 cd34 cd35 cd36 cd37 cd38 cd39 cd40 cd41 cd42 cd43 cd44 cd45 cd46 cd47 cd48 cd49 cd50 cd51 cd52 cd53 cd54 cd55 cd56 cd57 cd58 cd59 cd60 cd61 cd62 cd63 cd64 cd65 cd66 cd67 cd68 cd69 cd70 cd71 cd72 cd73 ct0 ct1 ct2 ct3 ct4 ct5 ct6 ct7 ct8 ct9 ct10 ct11 ct12 ct13 ct14 ct15 ct16 ct17 ct18 ct19 ct20 ct21 ct22 ct23 ct24 ct25 ct26 ct27 ct28 ct29 ct30 ct31 ct32 ct33 ct34 ct35 ct36 ct37 ct38 ct39 ct40 ct41 ct42 ct43 ct44 ct45 ct46 ct47 ct48 ct49 ct50 ct51 ct52 ct53 ct54 ct55 ct56 ct57 ct58 ct59 ct60 ct61 ct62 ct63 ct64 ct65 ct66 ct67 ct68 ct69 ct70 ct71 ct72 ct73 : Value}
    (a0 : PySem.W.nsIn K mainGlobals "_law_box" = some (some (.ref f0)))
    (l0 : K.lookup f0 = some ⟨oc0, od0, .func (PySem.W.fnOf "_law_box" "_law_box" (defArgs s__law_box) (defBody s__law_box) (defScope s__law_box) .none kV0 dc0 pm0 an0 cd0 ct0), sl0⟩)
    (c0 : PySem.W.codeIn K cd0 "_law_box" = true)
    (k0 : PySem.W.keepIn K (.ref f0) = true)
    (a1 : PySem.W.nsIn K mainGlobals "_law_take" = some (some (.ref f1)))
    (l1 : K.lookup f1 = some ⟨oc1, od1, .func (PySem.W.fnOf "_law_take" "_law_take" (defArgs s__law_take) (defBody s__law_take) (defScope s__law_take) .none kV1 dc1 pm1 an1 cd1 ct1), sl1⟩)
    (c1 : PySem.W.codeIn K cd1 "_law_take" = true)
    (k1 : PySem.W.keepIn K (.ref f1) = true)
    (a2 : PySem.W.nsIn K mainGlobals "_law_cells" = some (some (.ref f2)))
    (l2 : K.lookup f2 = some ⟨oc2, od2, .func (PySem.W.fnOf "_law_cells" "_law_cells" (defArgs s__law_cells) (defBody s__law_cells) (defScope s__law_cells) .none kV2 dc2 pm2 an2 cd2 ct2), sl2⟩)
    (c2 : PySem.W.codeIn K cd2 "_law_cells" = true)
    (k2 : PySem.W.keepIn K (.ref f2) = true)
    (a3 : PySem.W.nsIn K mainGlobals "_law_same" = some (some (.ref f3)))
    (l3 : K.lookup f3 = some ⟨oc3, od3, .func (PySem.W.fnOf "_law_same" "_law_same" (defArgs s__law_same) (defBody s__law_same) (defScope s__law_same) .none kV3 dc3 pm3 an3 cd3 ct3), sl3⟩)
    (c3 : PySem.W.codeIn K cd3 "_law_same" = true)
    (k3 : PySem.W.keepIn K (.ref f3) = true)
    (a4 : PySem.W.nsIn K mainGlobals "tuple_of" = some (some (.ref f4)))
    (l4 : K.lookup f4 = some ⟨oc4, od4, .func (PySem.W.fnOf "tuple_of" "tuple_of" (defArgs s_tuple_of) (defBody s_tuple_of) (defScope s_tuple_of) .none kV4 dc4 pm4 an4 cd4 ct4), sl4⟩)
    (c4 : PySem.W.codeIn K cd4 "tuple_of" = true)
    (k4 : PySem.W.keepIn K (.ref f4) = true)
    (a5 : PySem.W.nsIn K mainGlobals "less" = some (some (.ref f5)))
    (l5 : K.lookup f5 = some ⟨oc5, od5, .func (PySem.W.fnOf "less" "less" (defArgs s_less) (defBody s_less) (defScope s_less) .none kV5 dc5 pm5 an5 cd5 ct5), sl5⟩)
    (c5 : PySem.W.codeIn K cd5 "less" = true)
    (k5 : PySem.W.keepIn K (.ref f5) = true)
    (a6 : PySem.W.nsIn K mainGlobals "sure_stretch" = some (some (.ref f6)))
    (l6 : K.lookup f6 = some ⟨oc6, od6, .func (PySem.W.fnOf "sure_stretch" "sure_stretch" (defArgs s_sure_stretch) (defBody s_sure_stretch) (defScope s_sure_stretch) .none kV6 dc6 pm6 an6 cd6 ct6), sl6⟩)
    (c6 : PySem.W.codeIn K cd6 "sure_stretch" = true)
    (k6 : PySem.W.keepIn K (.ref f6) = true)
    (a7 : PySem.W.nsIn K mainGlobals "lowest" = some (some (.ref f7)))
    (l7 : K.lookup f7 = some ⟨oc7, od7, .func (PySem.W.fnOf "lowest" "lowest" (defArgs s_lowest) (defBody s_lowest) (defScope s_lowest) .none kV7 dc7 pm7 an7 cd7 ct7), sl7⟩)
    (c7 : PySem.W.codeIn K cd7 "lowest" = true)
    (k7 : PySem.W.keepIn K (.ref f7) = true)
    (a8 : PySem.W.nsIn K mainGlobals "plus" = some (some (.ref f8)))
    (l8 : K.lookup f8 = some ⟨oc8, od8, .func (PySem.W.fnOf "plus" "plus" (defArgs s_plus) (defBody s_plus) (defScope s_plus) .none kV8 dc8 pm8 an8 cd8 ct8), sl8⟩)
    (c8 : PySem.W.codeIn K cd8 "plus" = true)
    (k8 : PySem.W.keepIn K (.ref f8) = true)
    (a9 : PySem.W.nsIn K mainGlobals "times" = some (some (.ref f9)))
    (l9 : K.lookup f9 = some ⟨oc9, od9, .func (PySem.W.fnOf "times" "times" (defArgs s_times) (defBody s_times) (defScope s_times) .none kV9 dc9 pm9 an9 cd9 ct9), sl9⟩)
    (c9 : PySem.W.codeIn K cd9 "times" = true)
    (k9 : PySem.W.keepIn K (.ref f9) = true)
    (a10 : PySem.W.nsIn K mainGlobals "curve_in" = some (some (.ref f10)))
    (l10 : K.lookup f10 = some ⟨oc10, od10, .func (PySem.W.fnOf "curve_in" "curve_in" (defArgs s_curve_in) (defBody s_curve_in) (defScope s_curve_in) .none kV10 dc10 pm10 an10 cd10 ct10), sl10⟩)
    (c10 : PySem.W.codeIn K cd10 "curve_in" = true)
    (k10 : PySem.W.keepIn K (.ref f10) = true)
    (a11 : PySem.W.nsIn K mainGlobals "curve_of" = some (some (.ref f11)))
    (l11 : K.lookup f11 = some ⟨oc11, od11, .func (PySem.W.fnOf "curve_of" "curve_of" (defArgs s_curve_of) (defBody s_curve_of) (defScope s_curve_of) .none kV11 dc11 pm11 an11 cd11 ct11), sl11⟩)
    (c11 : PySem.W.codeIn K cd11 "curve_of" = true)
    (k11 : PySem.W.keepIn K (.ref f11) = true)
    (a12 : PySem.W.nsIn K mainGlobals "curve_product" = some (some (.ref f12)))
    (l12 : K.lookup f12 = some ⟨oc12, od12, .func (PySem.W.fnOf "curve_product" "curve_product" (defArgs s_curve_product) (defBody s_curve_product) (defScope s_curve_product) .none kV12 dc12 pm12 an12 cd12 ct12), sl12⟩)
    (c12 : PySem.W.codeIn K cd12 "curve_product" = true)
    (k12 : PySem.W.keepIn K (.ref f12) = true)
    (a13 : PySem.W.nsIn K mainGlobals "curve_slope" = some (some (.ref f13)))
    (l13 : K.lookup f13 = some ⟨oc13, od13, .func (PySem.W.fnOf "curve_slope" "curve_slope" (defArgs s_curve_slope) (defBody s_curve_slope) (defScope s_curve_slope) .none kV13 dc13 pm13 an13 cd13 ct13), sl13⟩)
    (c13 : PySem.W.codeIn K cd13 "curve_slope" = true)
    (k13 : PySem.W.keepIn K (.ref f13) = true)
    (a14 : PySem.W.nsIn K mainGlobals "minus" = some (some (.ref f14)))
    (l14 : K.lookup f14 = some ⟨oc14, od14, .func (PySem.W.fnOf "minus" "minus" (defArgs s_minus) (defBody s_minus) (defScope s_minus) .none kV14 dc14 pm14 an14 cd14 ct14), sl14⟩)
    (c14 : PySem.W.codeIn K cd14 "minus" = true)
    (k14 : PySem.W.keepIn K (.ref f14) = true)
    (a15 : PySem.W.nsIn K mainGlobals "over" = some (some (.ref f15)))
    (l15 : K.lookup f15 = some ⟨oc15, od15, .func (PySem.W.fnOf "over" "over" (defArgs s_over) (defBody s_over) (defScope s_over) .none kV15 dc15 pm15 an15 cd15 ct15), sl15⟩)
    (c15 : PySem.W.codeIn K cd15 "over" = true)
    (k15 : PySem.W.keepIn K (.ref f15) = true)
    (a16 : PySem.W.nsIn K mainGlobals "curve_parted" = some (some (.ref f16)))
    (l16 : K.lookup f16 = some ⟨oc16, od16, .func (PySem.W.fnOf "curve_parted" "curve_parted" (defArgs s_curve_parted) (defBody s_curve_parted) (defScope s_curve_parted) .none kV16 dc16 pm16 an16 cd16 ct16), sl16⟩)
    (c16 : PySem.W.codeIn K cd16 "curve_parted" = true)
    (k16 : PySem.W.keepIn K (.ref f16) = true)
    (a17 : PySem.W.nsIn K mainGlobals "curve_times" = some (some (.ref f17)))
    (l17 : K.lookup f17 = some ⟨oc17, od17, .func (PySem.W.fnOf "curve_times" "curve_times" (defArgs s_curve_times) (defBody s_curve_times) (defScope s_curve_times) .none kV17 dc17 pm17 an17 cd17 ct17), sl17⟩)
    (c17 : PySem.W.codeIn K cd17 "curve_times" = true)
    (k17 : PySem.W.keepIn K (.ref f17) = true)
    (a18 : PySem.W.nsIn K mainGlobals "curve_headed" = some (some (.ref f18)))
    (l18 : K.lookup f18 = some ⟨oc18, od18, .func (PySem.W.fnOf "curve_headed" "curve_headed" (defArgs s_curve_headed) (defBody s_curve_headed) (defScope s_curve_headed) .none kV18 dc18 pm18 an18 cd18 ct18), sl18⟩)
    (c18 : PySem.W.codeIn K cd18 "curve_headed" = true)
    (k18 : PySem.W.keepIn K (.ref f18) = true)
    (a19 : PySem.W.nsIn K mainGlobals "curve_common" = some (some (.ref f19)))
    (l19 : K.lookup f19 = some ⟨oc19, od19, .func (PySem.W.fnOf "curve_common" "curve_common" (defArgs s_curve_common) (defBody s_curve_common) (defScope s_curve_common) .none kV19 dc19 pm19 an19 cd19 ct19), sl19⟩)
    (c19 : PySem.W.codeIn K cd19 "curve_common" = true)
    (k19 : PySem.W.keepIn K (.ref f19) = true)
    (a20 : PySem.W.nsIn K mainGlobals "odd_zeros" = some (some (.ref f20)))
    (l20 : K.lookup f20 = some ⟨oc20, od20, .func (PySem.W.fnOf "odd_zeros" "odd_zeros" (defArgs s_odd_zeros) (defBody s_odd_zeros) (defScope s_odd_zeros) .none kV20 dc20 pm20 an20 cd20 ct20), sl20⟩)
    (c20 : PySem.W.codeIn K cd20 "odd_zeros" = true)
    (k20 : PySem.W.keepIn K (.ref f20) = true)
    (a21 : PySem.W.nsIn K mainGlobals "sturm_curves" = some (some (.ref f21)))
    (l21 : K.lookup f21 = some ⟨oc21, od21, .func (PySem.W.fnOf "sturm_curves" "sturm_curves" (defArgs s_sturm_curves) (defBody s_sturm_curves) (defScope s_sturm_curves) .none kV21 dc21 pm21 an21 cd21 ct21), sl21⟩)
    (c21 : PySem.W.codeIn K cd21 "sturm_curves" = true)
    (k21 : PySem.W.keepIn K (.ref f21) = true)
    (a22 : PySem.W.nsIn K mainGlobals "turns_of" = some (some (.ref f22)))
    (l22 : K.lookup f22 = some ⟨oc22, od22, .func (PySem.W.fnOf "turns_of" "turns_of" (defArgs s_turns_of) (defBody s_turns_of) (defScope s_turns_of) .none kV22 dc22 pm22 an22 cd22 ct22), sl22⟩)
    (c22 : PySem.W.codeIn K cd22 "turns_of" = true)
    (k22 : PySem.W.keepIn K (.ref f22) = true)
    (a23 : PySem.W.nsIn K mainGlobals "zeros_inside" = some (some (.ref f23)))
    (l23 : K.lookup f23 = some ⟨oc23, od23, .func (PySem.W.fnOf "zeros_inside" "zeros_inside" (defArgs s_zeros_inside) (defBody s_zeros_inside) (defScope s_zeros_inside) .none kV23 dc23 pm23 an23 cd23 ct23), sl23⟩)
    (c23 : PySem.W.codeIn K cd23 "zeros_inside" = true)
    (k23 : PySem.W.keepIn K (.ref f23) = true)
    (a24 : PySem.W.nsIn K mainGlobals "first_off" = some (some (.ref f24)))
    (l24 : K.lookup f24 = some ⟨oc24, od24, .func (PySem.W.fnOf "first_off" "first_off" (defArgs s_first_off) (defBody s_first_off) (defScope s_first_off) .none kV24 dc24 pm24 an24 cd24 ct24), sl24⟩)
    (c24 : PySem.W.codeIn K cd24 "first_off" = true)
    (k24 : PySem.W.keepIn K (.ref f24) = true)
    (a25 : PySem.W.nsIn K mainGlobals "found_dip" = some (some (.ref f25)))
    (l25 : K.lookup f25 = some ⟨oc25, od25, .func (PySem.W.fnOf "found_dip" "found_dip" (defArgs s_found_dip) (defBody s_found_dip) (defScope s_found_dip) .none kV25 dc25 pm25 an25 cd25 ct25), sl25⟩)
    (c25 : PySem.W.codeIn K cd25 "found_dip" = true)
    (k25 : PySem.W.keepIn K (.ref f25) = true)
    (a26 : PySem.W.nsIn K mainGlobals "never_dips" = some (some (.ref f26)))
    (l26 : K.lookup f26 = some ⟨oc26, od26, .func (PySem.W.fnOf "never_dips" "never_dips" (defArgs s_never_dips) (defBody s_never_dips) (defScope s_never_dips) .none kV26 dc26 pm26 an26 cd26 ct26), sl26⟩)
    (c26 : PySem.W.codeIn K cd26 "never_dips" = true)
    (k26 : PySem.W.keepIn K (.ref f26) = true)
    (a27 : PySem.W.nsIn K mainGlobals "dip" = some (some (.ref f27)))
    (l27 : K.lookup f27 = some ⟨oc27, od27, .func (PySem.W.fnOf "dip" "dip" (defArgs s_dip) (defBody s_dip) (defScope s_dip) .none kV27 dc27 pm27 an27 cd27 ct27), sl27⟩)
    (c27 : PySem.W.codeIn K cd27 "dip" = true)
    (k27 : PySem.W.keepIn K (.ref f27) = true)
    (a28 : PySem.W.nsIn K mainGlobals "zeros_along" = some (some (.ref f28)))
    (l28 : K.lookup f28 = some ⟨oc28, od28, .func (PySem.W.fnOf "zeros_along" "zeros_along" (defArgs s_zeros_along) (defBody s_zeros_along) (defScope s_zeros_along) .none kV28 dc28 pm28 an28 cd28 ct28), sl28⟩)
    (c28 : PySem.W.codeIn K cd28 "zeros_along" = true)
    (k28 : PySem.W.keepIn K (.ref f28) = true)
    (a29 : PySem.W.nsIn K mainGlobals "curve_sum" = some (some (.ref f29)))
    (l29 : K.lookup f29 = some ⟨oc29, od29, .func (PySem.W.fnOf "curve_sum" "curve_sum" (defArgs s_curve_sum) (defBody s_curve_sum) (defScope s_curve_sum) .none kV29 dc29 pm29 an29 cd29 ct29), sl29⟩)
    (c29 : PySem.W.codeIn K cd29 "curve_sum" = true)
    (k29 : PySem.W.keepIn K (.ref f29) = true)
    (a30 : PySem.W.nsIn K mainGlobals "curve_less" = some (some (.ref f30)))
    (l30 : K.lookup f30 = some ⟨oc30, od30, .func (PySem.W.fnOf "curve_less" "curve_less" (defArgs s_curve_less) (defBody s_curve_less) (defScope s_curve_less) .none kV30 dc30 pm30 an30 cd30 ct30), sl30⟩)
    (c30 : PySem.W.codeIn K cd30 "curve_less" = true)
    (k30 : PySem.W.keepIn K (.ref f30) = true)
    (a31 : PySem.W.nsIn K mainGlobals "folk_in" = some (some (.ref f31)))
    (l31 : K.lookup f31 = some ⟨oc31, od31, .func (PySem.W.fnOf "folk_in" "folk_in" (defArgs s_folk_in) (defBody s_folk_in) (defScope s_folk_in) .none kV31 dc31 pm31 an31 cd31 ct31), sl31⟩)
    (c31 : PySem.W.codeIn K cd31 "folk_in" = true)
    (k31 : PySem.W.keepIn K (.ref f31) = true)
    (a32 : PySem.W.nsIn K mainGlobals "has_within" = some (some (.ref f32)))
    (l32 : K.lookup f32 = some ⟨oc32, od32, .func (PySem.W.fnOf "has_within" "has_within" (defArgs s_has_within) (defBody s_has_within) (defScope s_has_within) .none kV32 dc32 pm32 an32 cd32 ct32), sl32⟩)
    (c32 : PySem.W.codeIn K cd32 "has_within" = true)
    (k32 : PySem.W.keepIn K (.ref f32) = true)
    (a33 : PySem.W.nsIn K mainGlobals "up_in" = some (some (.ref f33)))
    (l33 : K.lookup f33 = some ⟨oc33, od33, .func (PySem.W.fnOf "up_in" "up_in" (defArgs s_up_in) (defBody s_up_in) (defScope s_up_in) .none kV33 dc33 pm33 an33 cd33 ct33), sl33⟩)
    (c33 : PySem.W.codeIn K cd33 "up_in" = true)
    (k33 : PySem.W.keepIn K (.ref f33) = true)
    (a34 : PySem.W.nsIn K mainGlobals "all_sets" = some (some (.ref f34)))
    (l34 : K.lookup f34 = some ⟨oc34, od34, .func (PySem.W.fnOf "all_sets" "all_sets" (defArgs s_all_sets) (defBody s_all_sets) (defScope s_all_sets) .none kV34 dc34 pm34 an34 cd34 ct34), sl34⟩)
    (c34 : PySem.W.codeIn K cd34 "all_sets" = true)
    (k34 : PySem.W.keepIn K (.ref f34) = true)
    (a35 : PySem.W.nsIn K mainGlobals "spread_curve" = some (some (.ref f35)))
    (l35 : K.lookup f35 = some ⟨oc35, od35, .func (PySem.W.fnOf "spread_curve" "spread_curve" (defArgs s_spread_curve) (defBody s_spread_curve) (defScope s_spread_curve) .none kV35 dc35 pm35 an35 cd35 ct35), sl35⟩)
    (c35 : PySem.W.codeIn K cd35 "spread_curve" = true)
    (k35 : PySem.W.keepIn K (.ref f35) = true)
    (a36 : PySem.W.nsIn K mainGlobals "counts_by_size" = some (some (.ref f36)))
    (l36 : K.lookup f36 = some ⟨oc36, od36, .func (PySem.W.fnOf "counts_by_size" "counts_by_size" (defArgs s_counts_by_size) (defBody s_counts_by_size) (defScope s_counts_by_size) .none kV36 dc36 pm36 an36 cd36 ct36), sl36⟩)
    (c36 : PySem.W.codeIn K cd36 "counts_by_size" = true)
    (k36 : PySem.W.keepIn K (.ref f36) = true)
    (a37 : PySem.W.nsIn K mainGlobals "up_curve" = some (some (.ref f37)))
    (l37 : K.lookup f37 = some ⟨oc37, od37, .func (PySem.W.fnOf "up_curve" "up_curve" (defArgs s_up_curve) (defBody s_up_curve) (defScope s_up_curve) .none kV37 dc37 pm37 an37 cd37 ct37), sl37⟩)
    (c37 : PySem.W.codeIn K cd37 "up_curve" = true)
    (k37 : PySem.W.keepIn K (.ref f37) = true)
    (a38 : PySem.W.nsIn K mainGlobals "no_worse" = some (some (.ref f38)))
    (l38 : K.lookup f38 = some ⟨oc38, od38, .func (PySem.W.fnOf "no_worse" "no_worse" (defArgs s_no_worse) (defBody s_no_worse) (defScope s_no_worse) .none kV38 dc38 pm38 an38 cd38 ct38), sl38⟩)
    (c38 : PySem.W.codeIn K cd38 "no_worse" = true)
    (k38 : PySem.W.keepIn K (.ref f38) = true)
    (a39 : PySem.W.nsIn K mainGlobals "worse_at" = some (some (.ref f39)))
    (l39 : K.lookup f39 = some ⟨oc39, od39, .func (PySem.W.fnOf "worse_at" "worse_at" (defArgs s_worse_at) (defBody s_worse_at) (defScope s_worse_at) .none kV39 dc39 pm39 an39 cd39 ct39), sl39⟩)
    (c39 : PySem.W.codeIn K cd39 "worse_at" = true)
    (k39 : PySem.W.keepIn K (.ref f39) = true)
    (a40 : PySem.W.nsIn K mainGlobals "is_number" = some (some (.ref f40)))
    (l40 : K.lookup f40 = some ⟨oc40, od40, .func (PySem.W.fnOf "is_number" "is_number" (defArgs s_is_number) (defBody s_is_number) (defScope s_is_number) .none kV40 dc40 pm40 an40 cd40 ct40), sl40⟩)
    (c40 : PySem.W.codeIn K cd40 "is_number" = true)
    (k40 : PySem.W.keepIn K (.ref f40) = true)
    (a41 : PySem.W.nsIn K mainGlobals "is_tuple_of" = some (some (.ref f41)))
    (l41 : K.lookup f41 = some ⟨oc41, od41, .func (PySem.W.fnOf "is_tuple_of" "is_tuple_of" (defArgs s_is_tuple_of) (defBody s_is_tuple_of) (defScope s_is_tuple_of) .none kV41 dc41 pm41 an41 cd41 ct41), sl41⟩)
    (c41 : PySem.W.codeIn K cd41 "is_tuple_of" = true)
    (k41 : PySem.W.keepIn K (.ref f41) = true)
    (a42 : PySem.W.nsIn K mainGlobals "is_fraction" = some (some (.ref f42)))
    (l42 : K.lookup f42 = some ⟨oc42, od42, .func (PySem.W.fnOf "is_fraction" "is_fraction" (defArgs s_is_fraction) (defBody s_is_fraction) (defScope s_is_fraction) .none kV42 dc42 pm42 an42 cd42 ct42), sl42⟩)
    (c42 : PySem.W.codeIn K cd42 "is_fraction" = true)
    (k42 : PySem.W.keepIn K (.ref f42) = true)
    (a43 : PySem.W.nsIn K mainGlobals "is_worse_at" = some (some (.ref f43)))
    (l43 : K.lookup f43 = some ⟨oc43, od43, .func (PySem.W.fnOf "is_worse_at" "is_worse_at" (defArgs s_is_worse_at) (defBody s_is_worse_at) (defScope s_is_worse_at) .none kV43 dc43 pm43 an43 cd43 ct43), sl43⟩)
    (c43 : PySem.W.codeIn K cd43 "is_worse_at" = true)
    (k43 : PySem.W.keepIn K (.ref f43) = true)
    (a44 : PySem.W.nsIn K mainGlobals "even_odds" = some (some (.ref f44)))
    (l44 : K.lookup f44 = some ⟨oc44, od44, .func (PySem.W.fnOf "even_odds" "even_odds" (defArgs s_even_odds) (defBody s_even_odds) (defScope s_even_odds) .none kV44 dc44 pm44 an44 cd44 ct44), sl44⟩)
    (c44 : PySem.W.codeIn K cd44 "even_odds" = true)
    (k44 : PySem.W.keepIn K (.ref f44) = true)
    (a45 : PySem.W.nsIn K mainGlobals "least_in" = some (some (.ref f45)))
    (l45 : K.lookup f45 = some ⟨oc45, od45, .func (PySem.W.fnOf "least_in" "least_in" (defArgs s_least_in) (defBody s_least_in) (defScope s_least_in) .none kV45 dc45 pm45 an45 cd45 ct45), sl45⟩)
    (c45 : PySem.W.codeIn K cd45 "least_in" = true)
    (k45 : PySem.W.keepIn K (.ref f45) = true)
    (a46 : PySem.W.nsIn K mainGlobals "sure_likely" = some (some (.ref f46)))
    (l46 : K.lookup f46 = some ⟨oc46, od46, .func (PySem.W.fnOf "sure_likely" "sure_likely" (defArgs s_sure_likely) (defBody s_sure_likely) (defScope s_sure_likely) .none kV46 dc46 pm46 an46 cd46 ct46), sl46⟩)
    (c46 : PySem.W.codeIn K cd46 "sure_likely" = true)
    (k46 : PySem.W.keepIn K (.ref f46) = true)
    (a47 : PySem.W.nsIn K mainGlobals "chance_just" = some (some (.ref f47)))
    (l47 : K.lookup f47 = some ⟨oc47, od47, .func (PySem.W.fnOf "chance_just" "chance_just" (defArgs s_chance_just) (defBody s_chance_just) (defScope s_chance_just) .none kV47 dc47 pm47 an47 cd47 ct47), sl47⟩)
    (c47 : PySem.W.codeIn K cd47 "chance_just" = true)
    (k47 : PySem.W.keepIn K (.ref f47) = true)
    (a48 : PySem.W.nsIn K mainGlobals "likelier_sets" = some (some (.ref f48)))
    (l48 : K.lookup f48 = some ⟨oc48, od48, .func (PySem.W.fnOf "likelier_sets" "likelier_sets" (defArgs s_likelier_sets) (defBody s_likelier_sets) (defScope s_likelier_sets) .none kV48 dc48 pm48 an48 cd48 ct48), sl48⟩)
    (c48 : PySem.W.codeIn K cd48 "likelier_sets" = true)
    (k48 : PySem.W.keepIn K (.ref f48) = true)
    (a49 : PySem.W.nsIn K mainGlobals "likelier_roster" = some (some (.ref f49)))
    (l49 : K.lookup f49 = some ⟨oc49, od49, .func (PySem.W.fnOf "likelier_roster" "likelier_roster" (defArgs s_likelier_roster) (defBody s_likelier_roster) (defScope s_likelier_roster) .none kV49 dc49 pm49 an49 cd49 ct49), sl49⟩)
    (c49 : PySem.W.codeIn K cd49 "likelier_roster" = true)
    (k49 : PySem.W.keepIn K (.ref f49) = true)
    (a50 : PySem.W.nsIn K mainGlobals "chance_of_sets" = some (some (.ref f50)))
    (l50 : K.lookup f50 = some ⟨oc50, od50, .func (PySem.W.fnOf "chance_of_sets" "chance_of_sets" (defArgs s_chance_of_sets) (defBody s_chance_of_sets) (defScope s_chance_of_sets) .none kV50 dc50 pm50 an50 cd50 ct50), sl50⟩)
    (c50 : PySem.W.codeIn K cd50 "chance_of_sets" = true)
    (k50 : PySem.W.keepIn K (.ref f50) = true)
    (a51 : PySem.W.nsIn K mainGlobals "likelier_chance" = some (some (.ref f51)))
    (l51 : K.lookup f51 = some ⟨oc51, od51, .func (PySem.W.fnOf "likelier_chance" "likelier_chance" (defArgs s_likelier_chance) (defBody s_likelier_chance) (defScope s_likelier_chance) .none kV51 dc51 pm51 an51 cd51 ct51), sl51⟩)
    (c51 : PySem.W.codeIn K cd51 "likelier_chance" = true)
    (k51 : PySem.W.keepIn K (.ref f51) = true)
    (a52 : PySem.W.nsIn K mainGlobals "first_apart_pair" = some (some (.ref f52)))
    (l52 : K.lookup f52 = some ⟨oc52, od52, .func (PySem.W.fnOf "first_apart_pair" "first_apart_pair" (defArgs s_first_apart_pair) (defBody s_first_apart_pair) (defScope s_first_apart_pair) .none kV52 dc52 pm52 an52 cd52 ct52), sl52⟩)
    (c52 : PySem.W.codeIn K cd52 "first_apart_pair" = true)
    (k52 : PySem.W.keepIn K (.ref f52) = true)
    (a53 : PySem.W.nsIn K mainGlobals "meet_each" = some (some (.ref f53)))
    (l53 : K.lookup f53 = some ⟨oc53, od53, .func (PySem.W.fnOf "meet_each" "meet_each" (defArgs s_meet_each) (defBody s_meet_each) (defScope s_meet_each) .none kV53 dc53 pm53 an53 cd53 ct53), sl53⟩)
    (c53 : PySem.W.codeIn K cd53 "meet_each" = true)
    (k53 : PySem.W.keepIn K (.ref f53) = true)
    (a54 : PySem.W.nsIn K mainGlobals "meets_itself" = some (some (.ref f54)))
    (l54 : K.lookup f54 = some ⟨oc54, od54, .func (PySem.W.fnOf "meets_itself" "meets_itself" (defArgs s_meets_itself) (defBody s_meets_itself) (defScope s_meets_itself) .none kV54 dc54 pm54 an54 cd54 ct54), sl54⟩)
    (c54 : PySem.W.codeIn K cd54 "meets_itself" = true)
    (k54 : PySem.W.keepIn K (.ref f54) = true)
    (a55 : PySem.W.nsIn K mainGlobals "up_chance" = some (some (.ref f55)))
    (l55 : K.lookup f55 = some ⟨oc55, od55, .func (PySem.W.fnOf "up_chance" "up_chance" (defArgs s_up_chance) (defBody s_up_chance) (defScope s_up_chance) .none kV55 dc55 pm55 an55 cd55 ct55), sl55⟩)
    (c55 : PySem.W.codeIn K cd55 "up_chance" = true)
    (k55 : PySem.W.keepIn K (.ref f55) = true)
    (a56 : PySem.W.nsIn K mainGlobals "is_likeliest" = some (some (.ref f56)))
    (l56 : K.lookup f56 = some ⟨oc56, od56, .func (PySem.W.fnOf "is_likeliest" "is_likeliest" (defArgs s_is_likeliest) (defBody s_is_likeliest) (defScope s_is_likeliest) .none kV56 dc56 pm56 an56 cd56 ct56), sl56⟩)
    (c56 : PySem.W.codeIn K cd56 "is_likeliest" = true)
    (k56 : PySem.W.keepIn K (.ref f56) = true)
    (a57 : PySem.W.nsIn K mainGlobals "_law_try" = some (some (.ref f57)))
    (l57 : K.lookup f57 = some ⟨oc57, od57, .func (PySem.W.fnOf "_law_try" "_law_try" (defArgs s__law_try) (defBody s__law_try) (defScope s__law_try) .none kV57 dc57 pm57 an57 cd57 ct57), sl57⟩)
    (c57 : PySem.W.codeIn K cd57 "_law_try" = true)
    (k57 : PySem.W.keepIn K (.ref f57) = true)
    (a58 : PySem.W.nsIn K mainGlobals "is_curve" = some (some (.ref f58)))
    (l58 : K.lookup f58 = some ⟨oc58, od58, .func (PySem.W.fnOf "is_curve" "is_curve" (defArgs s_is_curve) (defBody s_is_curve) (defScope s_is_curve) .none kV58 dc58 pm58 an58 cd58 ct58), sl58⟩)
    (c58 : PySem.W.codeIn K cd58 "is_curve" = true)
    (k58 : PySem.W.keepIn K (.ref f58) = true)
    (a59 : PySem.W.nsIn K mainGlobals "curve_at" = some (some (.ref f59)))
    (l59 : K.lookup f59 = some ⟨oc59, od59, .func (PySem.W.fnOf "curve_at" "curve_at" (defArgs s_curve_at) (defBody s_curve_at) (defScope s_curve_at) .none kV59 dc59 pm59 an59 cd59 ct59), sl59⟩)
    (c59 : PySem.W.codeIn K cd59 "curve_at" = true)
    (k59 : PySem.W.keepIn K (.ref f59) = true)
    (a60 : PySem.W.nsIn K mainGlobals "curve_mirrored" = some (some (.ref f60)))
    (l60 : K.lookup f60 = some ⟨oc60, od60, .func (PySem.W.fnOf "curve_mirrored" "curve_mirrored" (defArgs s_curve_mirrored) (defBody s_curve_mirrored) (defScope s_curve_mirrored) .none kV60 dc60 pm60 an60 cd60 ct60), sl60⟩)
    (c60 : PySem.W.codeIn K cd60 "curve_mirrored" = true)
    (k60 : PySem.W.keepIn K (.ref f60) = true)
    (a61 : PySem.W.nsIn K mainGlobals "_law_soft" = some (some (.ref f61)))
    (l61 : K.lookup f61 = some ⟨oc61, od61, .func (PySem.W.fnOf "_law_soft" "_law_soft" (defArgs s__law_soft) (defBody s__law_soft) (defScope s__law_soft) .none kV61 dc61 pm61 an61 cd61 ct61), sl61⟩)
    (c61 : PySem.W.codeIn K cd61 "_law_soft" = true)
    (k61 : PySem.W.keepIn K (.ref f61) = true)
    (a62 : PySem.W.nsIn K mainGlobals "_law_less" = some (some (.ref f62)))
    (l62 : K.lookup f62 = some ⟨oc62, od62, .func (PySem.W.fnOf "_law_less" "_law_less" (defArgs s__law_less) (defBody s__law_less) (defScope s__law_less) .none kV62 dc62 pm62 an62 cd62 ct62), sl62⟩)
    (c62 : PySem.W.codeIn K cd62 "_law_less" = true)
    (k62 : PySem.W.keepIn K (.ref f62) = true)
    (a63 : PySem.W.nsIn K mainGlobals "_law_over" = some (some (.ref f63)))
    (l63 : K.lookup f63 = some ⟨oc63, od63, .func (PySem.W.fnOf "_law_over" "_law_over" (defArgs s__law_over) (defBody s__law_over) (defScope s__law_over) .none kV63 dc63 pm63 an63 cd63 ct63), sl63⟩)
    (c63 : PySem.W.codeIn K cd63 "_law_over" = true)
    (k63 : PySem.W.keepIn K (.ref f63) = true)
    (a64 : PySem.W.nsIn K mainGlobals "_law_plus" = some (some (.ref f64)))
    (l64 : K.lookup f64 = some ⟨oc64, od64, .func (PySem.W.fnOf "_law_plus" "_law_plus" (defArgs s__law_plus) (defBody s__law_plus) (defScope s__law_plus) .none kV64 dc64 pm64 an64 cd64 ct64), sl64⟩)
    (c64 : PySem.W.codeIn K cd64 "_law_plus" = true)
    (k64 : PySem.W.keepIn K (.ref f64) = true)
    (a65 : PySem.W.nsIn K mainGlobals "_law_times" = some (some (.ref f65)))
    (l65 : K.lookup f65 = some ⟨oc65, od65, .func (PySem.W.fnOf "_law_times" "_law_times" (defArgs s__law_times) (defBody s__law_times) (defScope s__law_times) .none kV65 dc65 pm65 an65 cd65 ct65), sl65⟩)
    (c65 : PySem.W.codeIn K cd65 "_law_times" = true)
    (k65 : PySem.W.keepIn K (.ref f65) = true)
    (a66 : PySem.W.nsIn K mainGlobals "_law_at" = some (some (.ref f66)))
    (l66 : K.lookup f66 = some ⟨oc66, od66, .func (PySem.W.fnOf "_law_at" "_law_at" (defArgs s__law_at) (defBody s__law_at) (defScope s__law_at) .none kV66 dc66 pm66 an66 cd66 ct66), sl66⟩)
    (c66 : PySem.W.codeIn K cd66 "_law_at" = true)
    (k66 : PySem.W.keepIn K (.ref f66) = true)
    (a67 : PySem.W.nsIn K mainGlobals "_law_curves_right" = some (some (.ref f67)))
    (l67 : K.lookup f67 = some ⟨oc67, od67, .func (PySem.W.fnOf "_law_curves_right" "_law_curves_right" (defArgs s__law_curves_right) (defBody s__law_curves_right) (defScope s__law_curves_right) .none kV67 dc67 pm67 an67 cd67 ct67), sl67⟩)
    (c67 : PySem.W.codeIn K cd67 "_law_curves_right" = true)
    (k67 : PySem.W.keepIn K (.ref f67) = true)
    (a68 : PySem.W.nsIn K mainGlobals "deciding_sets" = some (some (.ref f68)))
    (l68 : K.lookup f68 = some ⟨oc68, od68, .func (PySem.W.fnOf "deciding_sets" "deciding_sets" (defArgs s_deciding_sets) (defBody s_deciding_sets) (defScope s_deciding_sets) .none kV68 dc68 pm68 an68 cd68 ct68), sl68⟩)
    (c68 : PySem.W.codeIn K cd68 "deciding_sets" = true)
    (k68 : PySem.W.keepIn K (.ref f68) = true)
    (a69 : PySem.W.nsIn K mainGlobals "deciding_curve" = some (some (.ref f69)))
    (l69 : K.lookup f69 = some ⟨oc69, od69, .func (PySem.W.fnOf "deciding_curve" "deciding_curve" (defArgs s_deciding_curve) (defBody s_deciding_curve) (defScope s_deciding_curve) .none kV69 dc69 pm69 an69 cd69 ct69), sl69⟩)
    (c69 : PySem.W.codeIn K cd69 "deciding_curve" = true)
    (k69 : PySem.W.keepIn K (.ref f69) = true)
    (a70 : PySem.W.nsIn K mainGlobals "deciding_chance" = some (some (.ref f70)))
    (l70 : K.lookup f70 = some ⟨oc70, od70, .func (PySem.W.fnOf "deciding_chance" "deciding_chance" (defArgs s_deciding_chance) (defBody s_deciding_chance) (defScope s_deciding_chance) .none kV70 dc70 pm70 an70 cd70 ct70), sl70⟩)
    (c70 : PySem.W.codeIn K cd70 "deciding_chance" = true)
    (k70 : PySem.W.keepIn K (.ref f70) = true)
    (a71 : PySem.W.nsIn K mainGlobals "more_than_half" = some (some (.ref f71)))
    (l71 : K.lookup f71 = some ⟨oc71, od71, .func (PySem.W.fnOf "more_than_half" "more_than_half" (defArgs s_more_than_half) (defBody s_more_than_half) (defScope s_more_than_half) .none kV71 dc71 pm71 an71 cd71 ct71), sl71⟩)
    (c71 : PySem.W.codeIn K cd71 "more_than_half" = true)
    (k71 : PySem.W.keepIn K (.ref f71) = true)
    (a72 : PySem.W.nsIn K mainGlobals "_law_rosters_right" = some (some (.ref f72)))
    (l72 : K.lookup f72 = some ⟨oc72, od72, .func (PySem.W.fnOf "_law_rosters_right" "_law_rosters_right" (defArgs s__law_rosters_right) (defBody s__law_rosters_right) (defScope s__law_rosters_right) .none kV72 dc72 pm72 an72 cd72 ct72), sl72⟩)
    (c72 : PySem.W.codeIn K cd72 "_law_rosters_right" = true)
    (k72 : PySem.W.keepIn K (.ref f72) = true)
    (a73 : PySem.W.nsIn K mainGlobals "law" = some (some (.ref f73)))
    (l73 : K.lookup f73 = some ⟨oc73, od73, .func (PySem.W.fnOf "law" "law" (defArgs s_law) (defBody s_law) (defScope s_law) .none kV73 dc73 pm73 an73 cd73 ct73), sl73⟩)
    (c73 : PySem.W.codeIn K cd73 "law" = true)
    (k73 : PySem.W.keepIn K (.ref f73) = true)
    (ka0 : PySem.W.nsIn K mainGlobals "HALF" = some (some (.ref kc0)))
    (kl0 : K.lookup kc0 = some ⟨.type "tuple", kd0, .seq #[.int 1 kt0_0, .int 2 kt0_1] kn0, ks0⟩)
    (ka1 : PySem.W.nsIn K mainGlobals "NOTHING" = some (some (.ref kc1)))
    (kl1 : K.lookup kc1 = some ⟨.type "tuple", kd1, .seq #[.int 0 kt1_0, .int 1 kt1_1] kn1, ks1⟩)
    (ka2 : PySem.W.nsIn K mainGlobals "WHOLE" = some (some (.ref kc2)))
    (kl2 : K.lookup kc2 = some ⟨.type "tuple", kd2, .seq #[.int 1 kt2_0, .int 1 kt2_1] kn2, ks2⟩)
    (gg : PySem.W.nsIn K mainGlobals "gcd" = some (some (.builtin "math.gcd")))
    (xa0 : PySem.W.nsIn K mainGlobals "CanNot" = some (some (.ref x0)))
    (xa1 : PySem.W.nsIn K mainGlobals "Unfit" = some (some (.ref x1)))
    (xx0 : PySem.W.excIn K x0 [.type "ValueError", .type "Exception", .type "BaseException", .type "object"] "ValueError.__new__" = true)
    (xk0 : PySem.W.keepIn K (.ref x0) = true)
    (xb0 : PySem.W.subIn K (.ref x0) (.type "BaseException") = some true)
    (xt0 : PySem.W.typeIn K (.ref x0) = some (.type "type"))
    (xd0 : PySem.W.hasDictIn K x0 = true)
    (xs0_0 : PySem.W.subIn K (.ref x0) (.ref x0) = some true)
    (xs0_1 : PySem.W.subIn K (.ref x0) (.ref x1) = some false)
    (xg0 : PySem.W.findIn K (.ref x0) "__getattribute__" = some (some (.builtin "BaseException.__getattribute__")))
    (xh0 : PySem.W.findIn K (.ref x0) "__getattr__" = some none)
    (xc0 : PySem.W.findIn K (.ref x0) "__class__" = some (some (.builtin "object.__class__")))
    (xn0 : PySem.W.specialIn K (.builtin "object.__class__") "__get__" = some (some (.builtin "getset_descriptor.__get__")))
    (xu0 : PySem.W.takesIn K (.builtin "object.__class__") = some true)
    (xm0 : PySem.W.mroIn K x0 (.type "object") = some true)
    (xx1 : PySem.W.excIn K x1 [.type "ValueError", .type "Exception", .type "BaseException", .type "object"] "ValueError.__new__" = true)
    (xk1 : PySem.W.keepIn K (.ref x1) = true)
    (xb1 : PySem.W.subIn K (.ref x1) (.type "BaseException") = some true)
    (xt1 : PySem.W.typeIn K (.ref x1) = some (.type "type"))
    (xd1 : PySem.W.hasDictIn K x1 = true)
    (xs1_0 : PySem.W.subIn K (.ref x1) (.ref x0) = some false)
    (xs1_1 : PySem.W.subIn K (.ref x1) (.ref x1) = some true)
    (xg1 : PySem.W.findIn K (.ref x1) "__getattribute__" = some (some (.builtin "BaseException.__getattribute__")))
    (xh1 : PySem.W.findIn K (.ref x1) "__getattr__" = some none)
    (xc1 : PySem.W.findIn K (.ref x1) "__class__" = some (some (.builtin "object.__class__")))
    (xn1 : PySem.W.specialIn K (.builtin "object.__class__") "__get__" = some (some (.builtin "getset_descriptor.__get__")))
    (xu1 : PySem.W.takesIn K (.builtin "object.__class__") = some true)
    (xm1 : PySem.W.mroIn K x1 (.type "object") = some true)
    (q_i_CanNot_ValueError : PySem.W.kitOne K (.ref x0) (.type "ValueError") = some true)
    (q_i_Unfit_ValueError : PySem.W.kitOne K (.ref x1) (.type "ValueError") = some true)
    (z_ValueError : PySem.W.nsIn K mainGlobals "ValueError" = some none)
    (z_abs : PySem.W.nsIn K mainGlobals "abs" = some none)
    (z_all : PySem.W.nsIn K mainGlobals "all" = some none)
    (z_any : PySem.W.nsIn K mainGlobals "any" = some none)
    (z_bool : PySem.W.nsIn K mainGlobals "bool" = some none)
    (z_enumerate : PySem.W.nsIn K mainGlobals "enumerate" = some none)
    (z_int : PySem.W.nsIn K mainGlobals "int" = some none)
    (z_isinstance : PySem.W.nsIn K mainGlobals "isinstance" = some none)
    (z_len : PySem.W.nsIn K mainGlobals "len" = some none)
    (z_list : PySem.W.nsIn K mainGlobals "list" = some none)
    (z_max : PySem.W.nsIn K mainGlobals "max" = some none)
    (z_range : PySem.W.nsIn K mainGlobals "range" = some none)
    (z_reversed : PySem.W.nsIn K mainGlobals "reversed" = some none)
    (z_set : PySem.W.nsIn K mainGlobals "set" = some none)
    (z_sorted : PySem.W.nsIn K mainGlobals "sorted" = some none)
    (z_str : PySem.W.nsIn K mainGlobals "str" = some none)
    (z_tuple : PySem.W.nsIn K mainGlobals "tuple" = some none)
    (z_zip : PySem.W.nsIn K mainGlobals "zip" = some none) :
    ∃ fd : FuncData, (∀ (s : Shared) (v : Value), BindsTo s fd ⟨[v], []⟩ [("script", v)]) ∧ ∀ base : Heap, K.In base → base.Ns mainGlobals mg → FnOk P w K mg base (L2.CX P w) 19 fa fd ["script"] (spLaw K) := by
  have e := hfa.symm.trans (PySem.W.mg_of X G a73)
  cases e
  have e0 : ∃ C, ExcOk K mg "CanNot" C := ⟨x0, ⟨PySem.W.mg_of X G xa0, ⟨_, _, _, _, PySem.F.excBase_ValueError, xx0⟩, xk0, xb0, xt0⟩⟩
  have g0 : e0.choose = x0 := by
    have q := e0.choose_spec.gC
    rw [PySem.W.mg_of X G xa0] at q
    exact (Value.ref.inj (Option.some.inj q)).symm
  have e1 : ∃ C, ExcOk K mg "Unfit" C := ⟨x1, ⟨PySem.W.mg_of X G xa1, ⟨_, _, _, _, PySem.F.excBase_ValueError, xx1⟩, xk1, xb1, xt1⟩⟩
  have g1 : e1.choose = x1 := by
    have q := e1.choose_spec.gC
    rw [PySem.W.mg_of X G xa1] at q
    exact (Value.ref.inj (Option.some.inj q)).symm
  have xall : ∀ (a b : Str) (k : Bool), mX a b = some k → ∀ (ca : Value) (C : Addr), mg a = some ca → mg b = some (.ref C) → PySem.W.exmOne K ca (.ref C) = some k := by
    intro a b k hk ca C ha hb
    unfold mX at hk
    split at hk
    · rename_i hin
      have hin := Bool.and_eq_true_iff.mp hin
      have ka : a = "CanNot" ∨ a = "Unfit" := by simpa [known] using hin.1
      have kb : b = "CanNot" ∨ b = "Unfit" := by simpa [known] using hin.2
      rcases ka with rfl | rfl <;> rcases kb with rfl | rfl
      · rw [PySem.W.mg_of X G xa0] at ha
        rw [PySem.W.mg_of X G xa0] at hb
        cases ha
        cases hb
        have e := PySem.W.exm_ref xb0 xd0 xt0 xs0_0
        rw [e]
        rw [← hk]
        decide +kernel
      · rw [PySem.W.mg_of X G xa0] at ha
        rw [PySem.W.mg_of X G xa1] at hb
        cases ha
        cases hb
        have e := PySem.W.exm_ref xb1 xd1 xt1 xs0_1
        rw [e]
        rw [← hk]
        decide +kernel
      · rw [PySem.W.mg_of X G xa1] at ha
        rw [PySem.W.mg_of X G xa0] at hb
        cases ha
        cases hb
        have e := PySem.W.exm_ref xb0 xd0 xt0 xs1_0
        rw [e]
        rw [← hk]
        decide +kernel
      · rw [PySem.W.mg_of X G xa1] at ha
        rw [PySem.W.mg_of X G xa1] at hb
        cases ha
        cases hb
        have e := PySem.W.exm_ref xb1 xd1 xt1 xs1_1
        rw [e]
        rw [← hk]
        decide +kernel
    · cases hk
  have T : Txt K mg := { b_ValueError := PySem.W.mg_none_of X G z_ValueError, b_abs := PySem.W.mg_none_of X G z_abs, b_all := PySem.W.mg_none_of X G z_all, b_any := PySem.W.mg_none_of X G z_any, b_bool := PySem.W.mg_none_of X G z_bool, b_enumerate := PySem.W.mg_none_of X G z_enumerate, b_int := PySem.W.mg_none_of X G z_int, b_isinstance := PySem.W.mg_none_of X G z_isinstance, b_len := PySem.W.mg_none_of X G z_len, b_list := PySem.W.mg_none_of X G z_list, b_max := PySem.W.mg_none_of X G z_max, b_range := PySem.W.mg_none_of X G z_range, b_reversed := PySem.W.mg_none_of X G z_reversed, b_set := PySem.W.mg_none_of X G z_set, b_sorted := PySem.W.mg_none_of X G z_sorted, b_str := PySem.W.mg_none_of X G z_str, b_tuple := PySem.W.mg_none_of X G z_tuple, b_zip := PySem.W.mg_none_of X G z_zip, k_HALF := kok_ints (ns := [1, 2]) (PySem.W.mg_of X G ka0) kl0 rfl rfl (Nat.le_of_ble_eq_true rfl) (.cons ⟨_, rfl⟩ (.cons ⟨_, rfl⟩ .nil)), k_NOTHING := kok_ints (ns := [0, 1]) (PySem.W.mg_of X G ka1) kl1 rfl rfl (Nat.le_of_ble_eq_true rfl) (.cons ⟨_, rfl⟩ (.cons ⟨_, rfl⟩ .nil)), k_WHOLE := kok_ints (ns := [1, 1]) (PySem.W.mg_of X G ka2) kl2 rfl rfl (Nat.le_of_ble_eq_true rfl) (.cons ⟨_, rfl⟩ (.cons ⟨_, rfl⟩ .nil)), g_gcd := PySem.W.mg_of X G gg, e_CanNot := e0, e_Unfit := e1, x_all := xall, c_CanNot := by rw [g0]; exact ⟨xg0, xh0, xb0, xd0, xc0, xn0, xu0, xm0⟩, c_Unfit := by rw [g1]; exact ⟨xg1, xh1, xb1, xd1, xc1, xn1, xu1, xm1⟩, i_CanNot_ValueError := by rw [g0]; exact q_i_CanNot_ValueError, i_Unfit_ValueError := by rw [g1]; exact q_i_Unfit_ValueError, d__law_box := ⟨_, _, PySem.W.mg_of X G a0, fun_mk (st := s__law_box) l0 c0 k0⟩, d__law_take := ⟨_, _, PySem.W.mg_of X G a1, fun_mk (st := s__law_take) l1 c1 k1⟩, d__law_cells := ⟨_, _, PySem.W.mg_of X G a2, fun_mk (st := s__law_cells) l2 c2 k2⟩, d__law_same := ⟨_, _, PySem.W.mg_of X G a3, fun_mk (st := s__law_same) l3 c3 k3⟩, d_tuple_of := ⟨_, _, PySem.W.mg_of X G a4, fun_mk (st := s_tuple_of) l4 c4 k4⟩, d_less := ⟨_, _, PySem.W.mg_of X G a5, fun_mk (st := s_less) l5 c5 k5⟩, d_sure_stretch := ⟨_, _, PySem.W.mg_of X G a6, fun_mk (st := s_sure_stretch) l6 c6 k6⟩, d_lowest := ⟨_, _, PySem.W.mg_of X G a7, fun_mk (st := s_lowest) l7 c7 k7⟩, d_plus := ⟨_, _, PySem.W.mg_of X G a8, fun_mk (st := s_plus) l8 c8 k8⟩, d_times := ⟨_, _, PySem.W.mg_of X G a9, fun_mk (st := s_times) l9 c9 k9⟩, d_curve_in := ⟨_, _, PySem.W.mg_of X G a10, fun_mk (st := s_curve_in) l10 c10 k10⟩, d_curve_of := ⟨_, _, PySem.W.mg_of X G a11, fun_mk (st := s_curve_of) l11 c11 k11⟩, d_curve_product := ⟨_, _, PySem.W.mg_of X G a12, fun_mk (st := s_curve_product) l12 c12 k12⟩, d_curve_slope := ⟨_, _, PySem.W.mg_of X G a13, fun_mk (st := s_curve_slope) l13 c13 k13⟩, d_minus := ⟨_, _, PySem.W.mg_of X G a14, fun_mk (st := s_minus) l14 c14 k14⟩, d_over := ⟨_, _, PySem.W.mg_of X G a15, fun_mk (st := s_over) l15 c15 k15⟩, d_curve_parted := ⟨_, _, PySem.W.mg_of X G a16, fun_mk (st := s_curve_parted) l16 c16 k16⟩, d_curve_times := ⟨_, _, PySem.W.mg_of X G a17, fun_mk (st := s_curve_times) l17 c17 k17⟩, d_curve_headed := ⟨_, _, PySem.W.mg_of X G a18, fun_mk (st := s_curve_headed) l18 c18 k18⟩, d_curve_common := ⟨_, _, PySem.W.mg_of X G a19, fun_mk (st := s_curve_common) l19 c19 k19⟩, d_odd_zeros := ⟨_, _, PySem.W.mg_of X G a20, fun_mk (st := s_odd_zeros) l20 c20 k20⟩, d_sturm_curves := ⟨_, _, PySem.W.mg_of X G a21, fun_mk (st := s_sturm_curves) l21 c21 k21⟩, d_turns_of := ⟨_, _, PySem.W.mg_of X G a22, fun_mk (st := s_turns_of) l22 c22 k22⟩, d_zeros_inside := ⟨_, _, PySem.W.mg_of X G a23, fun_mk (st := s_zeros_inside) l23 c23 k23⟩, d_first_off := ⟨_, _, PySem.W.mg_of X G a24, fun_mk (st := s_first_off) l24 c24 k24⟩, d_found_dip := ⟨_, _, PySem.W.mg_of X G a25, fun_mk (st := s_found_dip) l25 c25 k25⟩, d_never_dips := ⟨_, _, PySem.W.mg_of X G a26, fun_mk (st := s_never_dips) l26 c26 k26⟩, d_dip := ⟨_, _, PySem.W.mg_of X G a27, fun_mk (st := s_dip) l27 c27 k27⟩, d_zeros_along := ⟨_, _, PySem.W.mg_of X G a28, fun_mk (st := s_zeros_along) l28 c28 k28⟩, d_curve_sum := ⟨_, _, PySem.W.mg_of X G a29, fun_mk (st := s_curve_sum) l29 c29 k29⟩, d_curve_less := ⟨_, _, PySem.W.mg_of X G a30, fun_mk (st := s_curve_less) l30 c30 k30⟩, d_folk_in := ⟨_, _, PySem.W.mg_of X G a31, fun_mk (st := s_folk_in) l31 c31 k31⟩, d_has_within := ⟨_, _, PySem.W.mg_of X G a32, fun_mk (st := s_has_within) l32 c32 k32⟩, d_up_in := ⟨_, _, PySem.W.mg_of X G a33, fun_mk (st := s_up_in) l33 c33 k33⟩, d_all_sets := ⟨_, _, PySem.W.mg_of X G a34, fun_mk (st := s_all_sets) l34 c34 k34⟩, d_spread_curve := ⟨_, _, PySem.W.mg_of X G a35, fun_mk (st := s_spread_curve) l35 c35 k35⟩, d_counts_by_size := ⟨_, _, PySem.W.mg_of X G a36, fun_mk (st := s_counts_by_size) l36 c36 k36⟩, d_up_curve := ⟨_, _, PySem.W.mg_of X G a37, fun_mk (st := s_up_curve) l37 c37 k37⟩, d_no_worse := ⟨_, _, PySem.W.mg_of X G a38, fun_mk (st := s_no_worse) l38 c38 k38⟩, d_worse_at := ⟨_, _, PySem.W.mg_of X G a39, fun_mk (st := s_worse_at) l39 c39 k39⟩, d_is_number := ⟨_, _, PySem.W.mg_of X G a40, fun_mk (st := s_is_number) l40 c40 k40⟩, d_is_tuple_of := ⟨_, _, PySem.W.mg_of X G a41, fun_mk (st := s_is_tuple_of) l41 c41 k41⟩, d_is_fraction := ⟨_, _, PySem.W.mg_of X G a42, fun_mk (st := s_is_fraction) l42 c42 k42⟩, d_is_worse_at := ⟨_, _, PySem.W.mg_of X G a43, fun_mk (st := s_is_worse_at) l43 c43 k43⟩, d_even_odds := ⟨_, _, PySem.W.mg_of X G a44, fun_mk (st := s_even_odds) l44 c44 k44⟩, d_least_in := ⟨_, _, PySem.W.mg_of X G a45, fun_mk (st := s_least_in) l45 c45 k45⟩, d_sure_likely := ⟨_, _, PySem.W.mg_of X G a46, fun_mk (st := s_sure_likely) l46 c46 k46⟩, d_chance_just := ⟨_, _, PySem.W.mg_of X G a47, fun_mk (st := s_chance_just) l47 c47 k47⟩, d_likelier_sets := ⟨_, _, PySem.W.mg_of X G a48, fun_mk (st := s_likelier_sets) l48 c48 k48⟩, d_likelier_roster := ⟨_, _, PySem.W.mg_of X G a49, fun_mk (st := s_likelier_roster) l49 c49 k49⟩, d_chance_of_sets := ⟨_, _, PySem.W.mg_of X G a50, fun_mk (st := s_chance_of_sets) l50 c50 k50⟩, d_likelier_chance := ⟨_, _, PySem.W.mg_of X G a51, fun_mk (st := s_likelier_chance) l51 c51 k51⟩, d_first_apart_pair := ⟨_, _, PySem.W.mg_of X G a52, fun_mk (st := s_first_apart_pair) l52 c52 k52⟩, d_meet_each := ⟨_, _, PySem.W.mg_of X G a53, fun_mk (st := s_meet_each) l53 c53 k53⟩, d_meets_itself := ⟨_, _, PySem.W.mg_of X G a54, fun_mk (st := s_meets_itself) l54 c54 k54⟩, d_up_chance := ⟨_, _, PySem.W.mg_of X G a55, fun_mk (st := s_up_chance) l55 c55 k55⟩, d_is_likeliest := ⟨_, _, PySem.W.mg_of X G a56, fun_mk (st := s_is_likeliest) l56 c56 k56⟩, d__law_try := ⟨_, _, PySem.W.mg_of X G a57, fun_mk (st := s__law_try) l57 c57 k57⟩, d_is_curve := ⟨_, _, PySem.W.mg_of X G a58, fun_mk (st := s_is_curve) l58 c58 k58⟩, d_curve_at := ⟨_, _, PySem.W.mg_of X G a59, fun_mk (st := s_curve_at) l59 c59 k59⟩, d_curve_mirrored := ⟨_, _, PySem.W.mg_of X G a60, fun_mk (st := s_curve_mirrored) l60 c60 k60⟩, d__law_soft := ⟨_, _, PySem.W.mg_of X G a61, fun_mk (st := s__law_soft) l61 c61 k61⟩, d__law_less := ⟨_, _, PySem.W.mg_of X G a62, fun_mk (st := s__law_less) l62 c62 k62⟩, d__law_over := ⟨_, _, PySem.W.mg_of X G a63, fun_mk (st := s__law_over) l63 c63 k63⟩, d__law_plus := ⟨_, _, PySem.W.mg_of X G a64, fun_mk (st := s__law_plus) l64 c64 k64⟩, d__law_times := ⟨_, _, PySem.W.mg_of X G a65, fun_mk (st := s__law_times) l65 c65 k65⟩, d__law_at := ⟨_, _, PySem.W.mg_of X G a66, fun_mk (st := s__law_at) l66 c66 k66⟩, d__law_curves_right := ⟨_, _, PySem.W.mg_of X G a67, fun_mk (st := s__law_curves_right) l67 c67 k67⟩, d_deciding_sets := ⟨_, _, PySem.W.mg_of X G a68, fun_mk (st := s_deciding_sets) l68 c68 k68⟩, d_deciding_curve := ⟨_, _, PySem.W.mg_of X G a69, fun_mk (st := s_deciding_curve) l69 c69 k69⟩, d_deciding_chance := ⟨_, _, PySem.W.mg_of X G a70, fun_mk (st := s_deciding_chance) l70 c70 k70⟩, d_more_than_half := ⟨_, _, PySem.W.mg_of X G a71, fun_mk (st := s_more_than_half) l71 c71 k71⟩, d__law_rosters_right := ⟨_, _, PySem.W.mg_of X G a72, fun_mk (st := s__law_rosters_right) l72 c72 k72⟩, d_law := ⟨_, _, PySem.W.mg_of X G a73, fun_mk (st := s_law) l73 c73 k73⟩ }
  refine ⟨PySem.W.fnOf "law" "law" (defArgs s_law) (defBody s_law) (defScope s_law) .none kV73 dc73 pm73 an73 cd73 ct73, fun s v => .of_eq rfl, fun base _ _ => ?_⟩
  obtain ⟨f, fd, g, hm, Fu⟩ := (d_law (P := P) (w := w) (base := base) T).ex
  rw [PySem.W.mg_of X G a73] at hm
  cases hm
  obtain ⟨oc, od, kV, doc, pm, an, cdv, ct, osl, rfl, lk, hcd⟩ := Fu.ex
  rw [l73] at lk
  cases lk
  exact fn_law g
theorem walk {l : PySem.W.OpenLaw} {q : Program} {loose : List Str} {XP : (Str → Option Value) → Heap → Prop} {YP : World → Heap → Prop} {d : DefRec} {K : Params → PySem.W.Frag} (hn : l.most = some 63) (hdf : d.params.defaults = [])
    (hY : ∀ (w : World) (h : Heap), YP w h → (K w.params).In h)
    (F : ∀ (w : World) (mg : Str → Option Value) (fa : Addr) (h : Heap), (K w.params).In h → h.Ns mainGlobals mg → mg d.name = some (.ref fa) →
      ∃ fd : FuncData, (∀ (s : Shared) (u : Value), BindsTo s fd ⟨[u], []⟩ [("script", u)]) ∧ ∀ base : Heap, (K w.params).In base → base.Ns mainGlobals mg → FnOk l.prog w (K w.params) mg base (L2.CX l.prog w) 19 fa fd ["script"] (spLaw (K w.params))) :
    PySem.W.WalkO q loose XP YP l.row.toRowW d [] (fun f vs => PySem.call f vs) :=
  L2.walk_ofB (n := 63) (k := 19) (x := "script") (CX := fun w => L2.CX l.prog w) (sp := fun w => spLaw (K w.params)) hn (by decide) hdf ⟨rfl, by decide, by decide⟩ hY F (fun _ _ a ns hl hb _ hS => ⟨a, ns, rfl, hS, hl, hb, fun _ => rfl⟩) fun _ _ _ _ _ ⟨_, _, _, _, _, _, _, _, _, _, _, _, z⟩ => z
end P63
open PySem PySem.W PyProof.Rows
set_option maxRecDepth 100000 in
set_option maxHeartbeats 0 in
theorem PySem.Challenge.cw_lotsinturn_k63_chances_by_hand_and_refus_holds : PySem.Challenge.rw_lotsinturn_k63_chances_by_hand_and_refus.Holds := by
  w_on; o_law; k_head; (case hw => w_witness2)
  k_fill
  refine P63.walk (l := PySem.Challenge.rw_lotsinturn_k63_chances_by_hand_and_refus) rfl rfl (fun w h Y => PySem.W.kIn_of Y) ?F
  case F =>
    intro w mg fa h KX G hmg
    refine' P63.all_mk KX G hmg ?a0 ?l0 ?c0 ?k0 ?a1 ?l1 ?c1 ?k1 ?a2 ?l2 ?c2 ?k2 ?a3 ?l3 ?c3 ?k3 ?a4 ?l4 ?c4 ?k4 ?a5 ?l5 ?c5 ?k5 ?a6 ?l6 ?c6 ?k6 ?a7 ?l7 ?c7 ?k7 ?a8 ?l8 ?c8 ?k8 ?a9 ?l9 ?c9 ?k9 ?a10 ?l10 ?c10 ?k10 ?a11 ?l11 ?c11 ?k11 ?a12 ?l12 ?c12 ?k12 ?a13 ?l13 ?c13 ?k13 ?a14 ?l14 ?c14 ?k14 ?a15 ?l15 ?c15 ?k15 ?a16 ?l16 ?c16 ?k16 ?a17 ?l17 ?c17 ?k17 ?a18 ?l18 ?c18 ?k18 ?a19 ?l19 ?c19 ?k19 ?a20 ?l20 ?c20 ?k20 ?a21 ?l21 ?c21 ?k21 ?a22 ?l22 ?c22 ?k22 ?a23 ?l23 ?c23 ?k23 ?a24 ?l24 ?c24 ?k24 ?a25 ?l25 ?c25 ?k25 ?a26 ?l26 ?c26 ?k26 ?a27 ?l27 ?c27 ?k27 ?a28 ?l28 ?c28 ?k28 ?a29 ?l29 ?c29 ?k29 ?a30 ?l30 ?c30 ?k30 ?a31 ?l31 ?c31 ?k31 ?a32 ?l32 ?c32 ?k32 ?a33 ?l33 ?c33 ?k33 ?a34 ?l34 ?c34 ?k34 ?a35 ?l35 ?c35 ?k35 ?a36 ?l36 ?c36 ?k36 ?a37 ?l37 ?c37 ?k37 ?a38 ?l38 ?c38 ?k38 ?a39 ?l39 ?c39 ?k39 ?a40 ?l40 ?c40 ?k40 ?a41 ?l41 ?c41 ?k41 ?a42 ?l42 ?c42 ?k42 ?a43 ?l43 ?c43 ?k43 ?a44 ?l44 ?c44 ?k44 ?a45 ?l45 ?c45 ?k45 ?a46 ?l46 ?c46 ?k46 ?a47 ?l47 ?c47 ?k47 ?a48 ?l48 ?c48 ?k48 ?a49 ?l49 ?c49 ?k49 ?a50 ?l50 ?c50 ?k50 ?a51 ?l51 ?c51 ?k51 ?a52 ?l52 ?c52 ?k52 ?a53 ?l53 ?c53 ?k53 ?a54 ?l54 ?c54 ?k54 ?a55 ?l55 ?c55 ?k55 ?a56 ?l56 ?c56 ?k56 ?a57 ?l57 ?c57 ?k57 ?a58 ?l58 ?c58 ?k58 ?a59 ?l59 ?c59 ?k59 ?a60 ?l60 ?c60 ?k60 ?a61 ?l61 ?c61 ?k61 ?a62 ?l62 ?c62 ?k62 ?a63 ?l63 ?c63 ?k63 ?a64 ?l64 ?c64 ?k64 ?a65 ?l65 ?c65 ?k65 ?a66 ?l66 ?c66 ?k66 ?a67 ?l67 ?c67 ?k67 ?a68 ?l68 ?c68 ?k68 ?a69 ?l69 ?c69 ?k69 ?a70 ?l70 ?c70 ?k70 ?a71 ?l71 ?c71 ?k71 ?a72 ?l72 ?c72 ?k72 ?a73 ?l73 ?c73 ?k73 ?ka0 ?kl0 ?ka1 ?kl1 ?ka2 ?kl2 ?gg ?xa0 ?xa1 ?xx0 ?xk0 ?xb0 ?xt0 ?xd0 ?xs0_0 ?xs0_1 ?xg0 ?xh0 ?xc0 ?xn0 ?xu0 ?xm0 ?xx1 ?xk1 ?xb1 ?xt1 ?xd1 ?xs1_0 ?xs1_1 ?xg1 ?xh1 ?xc1 ?xn1 ?xu1 ?xm1 ?q_i_CanNot_ValueError ?q_i_Unfit_ValueError ?z_ValueError ?z_abs ?z_all ?z_any ?z_bool ?z_enumerate ?z_int ?z_isinstance ?z_len ?z_list ?z_max ?z_range ?z_reversed ?z_set ?z_sorted ?z_str ?z_tuple ?z_zip
    (case a0 => k_is)
    (case l0 => k_is)
    (case c0 => k_is)
    (case k0 => k_is)
    (case a1 => k_is)
    (case l1 => k_is)
    (case c1 => k_is)
    (case k1 => k_is)
    (case a2 => k_is)
    (case l2 => k_is)
    (case c2 => k_is)
    (case k2 => k_is)
    (case a3 => k_is)
    (case l3 => k_is)
    (case c3 => k_is)
    (case k3 => k_is)
    (case a4 => k_is)
    (case l4 => k_is)
    (case c4 => k_is)
    (case k4 => k_is)
    (case a5 => k_is)
    (case l5 => k_is)
    (case c5 => k_is)
    (case k5 => k_is)
    (case a6 => k_is)
    (case l6 => k_is)
    (case c6 => k_is)
    (case k6 => k_is)
    (case a7 => k_is)
    (case l7 => k_is)
    (case c7 => k_is)
    (case k7 => k_is)
    (case a8 => k_is)
    (case l8 => k_is)
    (case c8 => k_is)
    (case k8 => k_is)
    (case a9 => k_is)
    (case l9 => k_is)
    (case c9 => k_is)
    (case k9 => k_is)
    (case a10 => k_is)
    (case l10 => k_is)
    (case c10 => k_is)
    (case k10 => k_is)
    (case a11 => k_is)
    (case l11 => k_is)
    (case c11 => k_is)
    (case k11 => k_is)
    (case a12 => k_is)
    (case l12 => k_is)
    (case c12 => k_is)
    (case k12 => k_is)
    (case a13 => k_is)
    (case l13 => k_is)
    (case c13 => k_is)
    (case k13 => k_is)
    (case a14 => k_is)
    (case l14 => k_is)
    (case c14 => k_is)
    (case k14 => k_is)
    (case a15 => k_is)
    (case l15 => k_is)
    (case c15 => k_is)
    (case k15 => k_is)
    (case a16 => k_is)
    (case l16 => k_is)
    (case c16 => k_is)
    (case k16 => k_is)
    (case a17 => k_is)
    (case l17 => k_is)
    (case c17 => k_is)
    (case k17 => k_is)
    (case a18 => k_is)
    (case l18 => k_is)
    (case c18 => k_is)
    (case k18 => k_is)
    (case a19 => k_is)
    (case l19 => k_is)
    (case c19 => k_is)
    (case k19 => k_is)
    (case a20 => k_is)
    (case l20 => k_is)
    (case c20 => k_is)
    (case k20 => k_is)
    (case a21 => k_is)
    (case l21 => k_is)
    (case c21 => k_is)
    (case k21 => k_is)
    (case a22 => k_is)
    (case l22 => k_is)
    (case c22 => k_is)
    (case k22 => k_is)
    (case a23 => k_is)
    (case l23 => k_is)
    (case c23 => k_is)
    (case k23 => k_is)
    (case a24 => k_is)
    (case l24 => k_is)
    (case c24 => k_is)
    (case k24 => k_is)
    (case a25 => k_is)
    (case l25 => k_is)
    (case c25 => k_is)
    (case k25 => k_is)
    (case a26 => k_is)
    (case l26 => k_is)
    (case c26 => k_is)
    (case k26 => k_is)
    (case a27 => k_is)
    (case l27 => k_is)
    (case c27 => k_is)
    (case k27 => k_is)
    (case a28 => k_is)
    (case l28 => k_is)
    (case c28 => k_is)
    (case k28 => k_is)
    (case a29 => k_is)
    (case l29 => k_is)
    (case c29 => k_is)
    (case k29 => k_is)
    (case a30 => k_is)
    (case l30 => k_is)
    (case c30 => k_is)
    (case k30 => k_is)
    (case a31 => k_is)
    (case l31 => k_is)
    (case c31 => k_is)
    (case k31 => k_is)
    (case a32 => k_is)
    (case l32 => k_is)
    (case c32 => k_is)
    (case k32 => k_is)
    (case a33 => k_is)
    (case l33 => k_is)
    (case c33 => k_is)
    (case k33 => k_is)
    (case a34 => k_is)
    (case l34 => k_is)
    (case c34 => k_is)
    (case k34 => k_is)
    (case a35 => k_is)
    (case l35 => k_is)
    (case c35 => k_is)
    (case k35 => k_is)
    (case a36 => k_is)
    (case l36 => k_is)
    (case c36 => k_is)
    (case k36 => k_is)
    (case a37 => k_is)
    (case l37 => k_is)
    (case c37 => k_is)
    (case k37 => k_is)
    (case a38 => k_is)
    (case l38 => k_is)
    (case c38 => k_is)
    (case k38 => k_is)
    (case a39 => k_is)
    (case l39 => k_is)
    (case c39 => k_is)
    (case k39 => k_is)
    (case a40 => k_is)
    (case l40 => k_is)
    (case c40 => k_is)
    (case k40 => k_is)
    (case a41 => k_is)
    (case l41 => k_is)
    (case c41 => k_is)
    (case k41 => k_is)
    (case a42 => k_is)
    (case l42 => k_is)
    (case c42 => k_is)
    (case k42 => k_is)
    (case a43 => k_is)
    (case l43 => k_is)
    (case c43 => k_is)
    (case k43 => k_is)
    (case a44 => k_is)
    (case l44 => k_is)
    (case c44 => k_is)
    (case k44 => k_is)
    (case a45 => k_is)
    (case l45 => k_is)
    (case c45 => k_is)
    (case k45 => k_is)
    (case a46 => k_is)
    (case l46 => k_is)
    (case c46 => k_is)
    (case k46 => k_is)
    (case a47 => k_is)
    (case l47 => k_is)
    (case c47 => k_is)
    (case k47 => k_is)
    (case a48 => k_is)
    (case l48 => k_is)
    (case c48 => k_is)
    (case k48 => k_is)
    (case a49 => k_is)
    (case l49 => k_is)
    (case c49 => k_is)
    (case k49 => k_is)
    (case a50 => k_is)
    (case l50 => k_is)
    (case c50 => k_is)
    (case k50 => k_is)
    (case a51 => k_is)
    (case l51 => k_is)
    (case c51 => k_is)
    (case k51 => k_is)
    (case a52 => k_is)
    (case l52 => k_is)
    (case c52 => k_is)
    (case k52 => k_is)
    (case a53 => k_is)
    (case l53 => k_is)
    (case c53 => k_is)
    (case k53 => k_is)
    (case a54 => k_is)
    (case l54 => k_is)
    (case c54 => k_is)
    (case k54 => k_is)
    (case a55 => k_is)
    (case l55 => k_is)
    (case c55 => k_is)
    (case k55 => k_is)
    (case a56 => k_is)
    (case l56 => k_is)
    (case c56 => k_is)
    (case k56 => k_is)
    (case a57 => k_is)
    (case l57 => k_is)
    (case c57 => k_is)
    (case k57 => k_is)
    (case a58 => k_is)
    (case l58 => k_is)
    (case c58 => k_is)
    (case k58 => k_is)
    (case a59 => k_is)
    (case l59 => k_is)
    (case c59 => k_is)
    (case k59 => k_is)
    (case a60 => k_is)
    (case l60 => k_is)
    (case c60 => k_is)
    (case k60 => k_is)
    (case a61 => k_is)
    (case l61 => k_is)
    (case c61 => k_is)
    (case k61 => k_is)
    (case a62 => k_is)
    (case l62 => k_is)
    (case c62 => k_is)
    (case k62 => k_is)
    (case a63 => k_is)
    (case l63 => k_is)
    (case c63 => k_is)
    (case k63 => k_is)
    (case a64 => k_is)
    (case l64 => k_is)
    (case c64 => k_is)
    (case k64 => k_is)
    (case a65 => k_is)
    (case l65 => k_is)
    (case c65 => k_is)
    (case k65 => k_is)
    (case a66 => k_is)
    (case l66 => k_is)
    (case c66 => k_is)
    (case k66 => k_is)
    (case a67 => k_is)
    (case l67 => k_is)
    (case c67 => k_is)
    (case k67 => k_is)
    (case a68 => k_is)
    (case l68 => k_is)
    (case c68 => k_is)
    (case k68 => k_is)
    (case a69 => k_is)
    (case l69 => k_is)
    (case c69 => k_is)
    (case k69 => k_is)
    (case a70 => k_is)
    (case l70 => k_is)
    (case c70 => k_is)
    (case k70 => k_is)
    (case a71 => k_is)
    (case l71 => k_is)
    (case c71 => k_is)
    (case k71 => k_is)
    (case a72 => k_is)
    (case l72 => k_is)
    (case c72 => k_is)
    (case k72 => k_is)
    (case a73 => k_is)
    (case l73 => k_is)
    (case c73 => k_is)
    (case k73 => k_is)
    (case ka0 => k_is)
    (case kl0 => k_is)
    (case ka1 => k_is)
    (case kl1 => k_is)
    (case ka2 => k_is)
    (case kl2 => k_is)
    (case gg => k_is)
    (case xa0 => k_is)
    (case xa1 => k_is)
    (case xx0 => k_exc)
    (case xk0 => k_is)
    (case xb0 => k_is)
    (case xt0 => k_is)
    (case xd0 => k_is)
    (case xs0_0 => first | rfl | k_is)
    (case xs0_1 => first | rfl | k_is)
    (case xg0 => k_is)
    (case xh0 => k_is)
    (case xc0 => k_is)
    (case xn0 => k_is)
    (case xu0 => k_is)
    (case xm0 => k_is)
    (case xx1 => k_exc)
    (case xk1 => k_is)
    (case xb1 => k_is)
    (case xt1 => k_is)
    (case xd1 => k_is)
    (case xs1_0 => first | rfl | k_is)
    (case xs1_1 => first | rfl | k_is)
    (case xg1 => k_is)
    (case xh1 => k_is)
    (case xc1 => k_is)
    (case xn1 => k_is)
    (case xu1 => k_is)
    (case xm1 => k_is)
    (case q_i_CanNot_ValueError => first | rfl | k_is)
    (case q_i_Unfit_ValueError => first | rfl | k_is)
    (case z_ValueError => k_is)
    (case z_abs => k_is)
    (case z_all => k_is)
    (case z_any => k_is)
    (case z_bool => k_is)
    (case z_enumerate => k_is)
    (case z_int => k_is)
    (case z_isinstance => k_is)
    (case z_len => k_is)
    (case z_list => k_is)
    (case z_max => k_is)
    (case z_range => k_is)
    (case z_reversed => k_is)
    (case z_set => k_is)
    (case z_sorted => k_is)
    (case z_str => k_is)
    (case z_tuple => k_is)
    (case z_zip => k_is)

