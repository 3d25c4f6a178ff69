import PyProof.Rows.All
import Wide.All
import OpenK.AllK
import Wide.FinOn
import HandS.ForMost
import HandS.ForExc
import HandS.Wide
import HandS.IsInst
import HandS.TupAny
import HandS.TupMul
import HandS.Deep
import HandS.WideBits
import HandS.Flow
import HandS.ExcCtx
import HandS.HotCalls
import HandS.ExcIs
import HandS.SortInts
import HandS.SortRule
import HandS.SetFor
import HandS.Strs
import HandS.ExcValue
import HandS.TupLe
import HandS.Style
import HandS.Iter
import HandS.Zip
import HandS.Conv
import KE.GoesEnum
import HandS.More
import PyProof.WalksMore
import PyProof.MinMaxWalk
import PyProof.SumWalkG
import PyProof.StrOps2
import KE.DataMinMax
import KE.KDictPairs
import HandS.SetKeys
import HandS.Text
import HandS.Flt
import KE.KDictList
import KE.DataFind
import PySem.Challenge.RW_walkframe_k48_offices_opened
set_option Elab.async false
set_option linter.all false
set_option maxRecDepth 100000
set_option maxHeartbeats 4000000
namespace Pu
open PySem PySem.Spec PyProof.Rows L2
/-- a new tuple is laid, and stays as it is -/
def NT (vs : List V) (H : Hp) (Q : VK) : Prop := ∀ (p : Addr) (ob : Obj), H p = none → ob.dict = none → Q (.ref p) (upd H p (.frz ob (.tup vs)))
section
variable {X : Cx}
theorem NT.lay {pins : List (Addr × Obj)} {σ : L2.St} {H : Hp} {s : Shared} {vs : List V} {us : List Value} {Q : VK} {tk : Tok} (J : Inv X pins σ H s) (r : Vals vs us) (z : vs.length ≤ sizeLine) (q : NT vs H Q) :
    EP X pins σ Q (.ref s.heap.objs.size) { s with heap := s.heap.push { cls := .type "tuple", data := .seq us.toArray }, toks := tk } :=
  ⟨.ref s.heap.objs.size, _, J.laid (t' := tk) (o := .frz { cls := .type "tuple", data := .seq us.toArray } (.tup vs)) (fun _ _ e => Heap.get?_push_of_some _ e) (Nat.le_refl _) ⟨Heap.get?_push_size _ rfl, z, us, r, IsTup.new _ _⟩, rfl, q _ _ (J.hok.fresh (Nat.le_refl _)) rfl⟩
def tTupF (t : TA) : TE := fun σ H Q => t σ H fun vs H1 => vs.length ≤ sizeLine ∧ NT vs H1 Q
theorem pe_tupF {es : List Expr} {t : TA} {k : Nat} {pos : Pos} (h : PA X es t) : PE X (.Tuple es k pos) (tTupF t) := ⟨fun pins s σ H Q J h0 =>
  wpAny_Tuple_spliced (thn (h.run pos pins s σ H _ J h0) fun us s1 ⟨vs, H1, J1, r, z, q⟩ => ⟨by rw [← r.length]; exact z, NT.lay (tk := s1.toks) J1 r z q⟩)⟩
theorem cr_tupleF : CallR X (.type "tuple") (fun xs H Q => ∃ p ys, xs = [.ref p] ∧ ((SqL X.K H p ys ∧ NT ys H Q) ∨ (SqT X.K H p ys ∧ Q (.ref p) H))) := by
  intro pins s σ H xs ws Q J r0 h
  obtain ⟨p, ys, rfl, h⟩ := h
  obtain ⟨wv, rfl, rw0⟩ := vals1 r0
  cases rw0
  rcases h with ⟨hl, q⟩ | ⟨ht, q⟩
  · obtain ⟨its, ri, pl, z⟩ := J.list hl
    have hlen := ri.length
    refine call_tuple_list pl.isList (fun h1 kp => ?_) (by simp only [List.size_toArray]; omega)
    have J1 : Inv X pins σ H { s with heap := h1 } := J.kept (t' := s.toks) kp
    exact NT.lay (tk := s.toks) J1 ri z q
  · obtain ⟨its, ri, pl, _⟩ := J.tuple ht
    exact call_tuple_same pl ⟨.ref p, H, J, rfl, q⟩
/-- t + u -/
def rCatF (K : PySem.W.Frag) : R2 := fun x y H Q => ∃ a b xs ys, x = .ref a ∧ y = .ref b ∧ SqT K H a xs ∧ SqT K H b ys ∧ xs.length + ys.length ≤ sizeLine ∧ (xs = [] → Q (.ref b) H) ∧ (xs ≠ [] → ys = [] → Q (.ref a) H) ∧ (xs ≠ [] → ys ≠ [] → NT (xs ++ ys) H Q)
theorem op_catF : OpR X (binaryOp .Add) (rCatF X.K) := by
  intro pins s σ H x y v u Q J rx ry h
  obtain ⟨a, b, xs, ys, rfl, rfl, ha, hb, z, q0, q1, q2⟩ := h
  cases rx
  cases ry
  obtain ⟨its, ri, pa', _⟩ := J.tuple ha
  obtain ⟨jts, rj, pb', _⟩ := J.tuple hb
  have nx := ri.nil_iff
  have ny := rj.nil_iff
  by_cases hx : xs = []
  · subst hx
    have e := nx.mpr rfl
    subst e
    exact cat_tup0 pa' pb' ⟨.ref b, H, J, rfl, q0 rfl⟩
  · refine HT.cat_tup pa' pb' (fun e => hx (nx.mp e)) (fun e => ⟨.ref a, H, J, rfl, q1 hx (ny.mp e)⟩) (fun e => ?_) (by rw [← ri.length, ← rj.length]; exact z)
    exact NT.lay (tk := s.toks) J (ri.append rj) (by rw [List.length_append]; exact z) (q2 hx fun w => e (ny.mpr w))
/-- t[lo:hi] -/
def rSlF (K : PySem.W.Frag) : V → Option Int → Option Int → Hp → VK → Prop := fun x lo hi H Q => ∃ a xs, x = .ref a ∧ SqT K H a xs ∧
  (HT.sIx xs.length 0 lo = 0 ∧ HT.sIx xs.length xs.length hi = xs.length → Q (.ref a) H) ∧ (¬ (HT.sIx xs.length 0 lo = 0 ∧ HT.sIx xs.length xs.length hi = xs.length) → NT (cutV xs lo hi) H Q)
theorem sl_tupF : SlR X (rSlF X.K) := by
  intro pins s σ H x v vl vu lo hi sl Q J rx hs pl pu h
  obtain ⟨a, xs, rfl, hx, q1, q2⟩ := h
  cases rx
  obtain ⟨its, ri, ht, z⟩ := J.tuple hx
  have hn : its.toArray.size = xs.length := by rw [List.size_toArray, ri.length]
  refine ⟨"tuple", _, PyProof.Rows.slot_tuple_getitem.lookup, ht.typeIs, ?_⟩
  by_cases hw : HT.sIx xs.length 0 lo = 0 ∧ HT.sIx xs.length xs.length hi = xs.length
  · exact getItem_tuple_whole ht hs pl pu (by rw [hn]; exact hw) ⟨.ref a, H, J, rfl, q1 hw⟩
  · refine HT.getItem_tuple_cut ht hs pl pu (by rw [hn]; exact hw) ?_ (by rw [hn]; exact z)
    rw [hn]
    exact NT.lay (tk := s.toks) J ((ri.drop (HT.sIx xs.length 0 lo)).take (HT.sIx xs.length xs.length hi - HT.sIx xs.length 0 lo)) (Nat.le_trans (cutV_length xs lo hi) z) (q2 hw)
/-- t * n, n from 2 on -/
def rRepF (K : PySem.W.Frag) : R2 := fun x y H Q => ∃ l n xs, x = .ref l ∧ y = .int n ∧ SqT K H l xs ∧ xs ≠ [] ∧ 2 ≤ n ∧ n ≤ 1000 ∧ xs.length ≤ 1000 ∧ NT (List.replicate n.toNat xs).flatten H Q
theorem op_repF : OpR X (binaryOp .Mult) (rRepF X.K) := by
  intro pins s σ H x y v u Q J rx ry h
  obtain ⟨l, n, xs, rfl, rfl, hT, hne, h1, h2, hz, q⟩ := h
  cases rx
  obtain ⟨tk, rfl⟩ := ry
  obtain ⟨its, ri, ⟨⟨cs, da, dt, st⟩, ho, hc, m, hd⟩, _⟩ := J.tuple hT
  simp only at hc hd
  subst hc hd
  have le : its.length = xs.length := ri.length.symm
  have n0 : its ≠ [] := fun e => hne (ri.nil_iff.mp e)
  have emp : its.toArray.isEmpty = false := by
    cases its with
    | nil => exact absurd rfl n0
    | cons a b => rfl
  have sz0 : its.toArray.size = xs.length := by rw [List.size_toArray, le]
  have m1 : ((its.toArray.size : Nat) : Int) * n ≤ 1000000 := by
    rw [sz0]
    have : ((xs.length : Nat) : Int) * n ≤ 1000 * n := Int.mul_le_mul_of_nonneg_right (by omega) (by omega)
    omega
  have m2 : n.toNat * xs.length ≤ 1000 * 1000 := Nat.mul_le_mul (by omega) hz
  have fl : (List.replicate n.toNat its).flatten.length ≤ sizeLine := by
    rw [PyProof.Rows.lm_len_rep_flat, le, sizeLine_eq]
    omega
  have g0 : (decide (n < -(2 ^ 63)) || decide (n ≥ 2 ^ 63)) = false := by rw [decide_eq_false (by omega), decide_eq_false (by omega)] <;> rfl
  have g1 : (its.toArray.isEmpty || n == 1) = false := by rw [emp, Bool.false_or]; exact beq_eq_false_iff_ne.mpr (by omega)
  have g2 : (decide (n ≤ 0) || its.toArray.isEmpty) = false := by rw [emp, Bool.or_false]; exact decide_eq_false (by omega)
  have g4 : Builtin.Tuple.tupleTooMany (((its.toArray.size : Nat) : Int) * n) = false := by unfold Builtin.Tuple.tupleTooMany; rw [sizeLine_eq]; exact decide_eq_false (by omega)
  refine wpAny_binaryOp_repeat_ref (T := "tuple") (U := "int") (by decide) ⟨_, ho, rfl⟩ (fun z => typeIs_int z n tk) noFill_tuple_mul F.fills_int_mul F.slot_int_rmul repeat_tuple F.slot_int_index.lookup ?_
  refine call_meets F.slot_int_rmul (typeIs_int s n tk) F.entry_int_rmul (F.args_int_rmul_2 _ _) (int_rmul_tuple n tk l its.toArray m da st) ⟨ho, rfl, ⟨_, ho, rfl⟩, ?_⟩
  refine call_meets F.slot_tuple_mul ⟨_, ho, rfl⟩ F.entry_tuple_mul (F.args_tuple_mul_2 _ _) (tuple_mulW l its.toArray m da st n tk g0 g1 g2 (by omega) g4 (by rw [size_rep, List.size_toArray]; exact fl)) ⟨ho, ?_⟩
  rw [size_rep]
  exact NT.lay (tk := s.toks) J (ri.rep n.toNat) (by rw [PyProof.Rows.lm_len_rep_flat, sizeLine_eq]; omega) q
end
end Pu
set_option Elab.async false
set_option linter.all false
set_option maxRecDepth 100000
namespace Pu
open PySem PySem.Spec PyProof.Rows L2

/-- a value: data by value; what is changed in place by its number in the store -/
inductive D where
  | non | bl (b : Bool) | int (i : Int) | str (x : Str) | tup (xs : List D) | tpi (xs : List D) | lst (xs : List D) | fls (xs : List D) | dct (kvs : List (Key × D)) | ref (n : Nat)
/-- an object of the store -/
inductive DO where
  | lst (xs : List D) | dct (kvs : List (Key × D)) | ins (c : Str) (fs : List (Str × D))
abbrev En := List (Option D)
abbrev Sto := List DO
inductive Res (α : Type) where
  | ok (a : α) (S : Sto) | exc (c : Str) (S : Sto) | bad
inductive SRes where
  | next (e : En) (S : Sto) | ret (d : D) (S : Sto) | brk (e : En) (S : Sto) | cnt (e : En) (S : Sto) | exc (c : Str) (e : En) (S : Sto) | bad
abbrev Ev (α : Type) := En → Sto → Res α
abbrev Stm := En → Sto → SRes

def Res.bind {α β : Type} (r : Res α) (k : α → Sto → Res β) : Res β := match r with
  | .ok a S => k a S
  | .exc c S => .exc c S
  | .bad => .bad
@[simp] theorem Res.bind_ok {α β : Type} {a : α} {S : Sto} {k : α → Sto → Res β} : (Res.ok a S).bind k = k a S := id rfl
@[simp] theorem Res.bind_exc {α β : Type} {c : Str} {S : Sto} {k : α → Sto → Res β} : (Res.exc c S).bind k = .exc c S := id rfl
@[simp] theorem Res.bind_bad {α β : Type} {k : α → Sto → Res β} : (Res.bad).bind k = .bad := id rfl
/-- a value, or nothing is promised -/
def opt {α : Type} (o : Option α) (S : Sto) : Res α := match o with
  | some a => .ok a S
  | none => .bad
@[simp] theorem opt_some {α : Type} {a : α} {S : Sto} : opt (some a) S = .ok a S := id rfl
@[simp] theorem opt_none {α : Type} {S : Sto} : opt (none : Option α) S = .bad := id rfl

/-- the addresses of the store's objects, by number; all addresses that no value may have by its data (those and the reserved ones) -/
structure AM where
  ad : List Addr
  no : List Addr
  sub : ∀ a, a ∈ ad → a ∈ no
def TupAt (K : PySem.W.Frag) (am : AM) (H : Hp) (a : Addr) (vs : List V) : Prop :=
  (∃ o : Obj, H a = some (.frz o (.tup vs)) ∧ o.dict = none ∧ a ∉ am.no) ∨ ∃ (o : Obj) (its : Array Value) (n : Nat), K.lookup a = some o ∧ o.cls = .type "tuple" ∧ o.dict = none ∧ o.data = .seq its n ∧ its.size ≤ sizeLine ∧ Vals vs its.toList
theorem TupAt.seq {K : PySem.W.Frag} {am : AM} {H : Hp} {a : Addr} {vs : List V} (h : TupAt K am H a vs) : SqT K H a vs := by
  rcases h with ⟨o, h, _⟩ | ⟨o, its, n, h1, h2, _, h3⟩
  · exact .inl (.inr ⟨o, h⟩)
  · exact .inr ⟨o, its, n, h1, h2, h3⟩
/-- the item of an iterator: read at once -/
def TpiAt (am : AM) (H : Hp) (a : Addr) (vs : List V) : Prop := Rd H a (.tup vs) ∧ a ∉ am.no
def LstAt (K : PySem.W.Frag) (am : AM) (H : Hp) (a : Addr) (vs : List V) : Prop :=
  (Rd H a (.lst vs) ∧ a ∉ am.no) ∨ ∃ (o : Obj) (its : Array Value) (n : Nat), K.lookup a = some o ∧ o.cls = .type "list" ∧ o.dict = none ∧ o.data = .seq its n ∧ its.size ≤ sizeLine ∧ Vals vs its.toList
theorem LstAt.seq {K : PySem.W.Frag} {am : AM} {H : Hp} {a : Addr} {vs : List V} (h : LstAt K am H a vs) : SqL K H a vs := by
  rcases h with ⟨h, _⟩ | h
  · exact .inl h
  · exact .inr h
mutual
inductive VR (K : PySem.W.Frag) (am : AM) (H : Hp) : D → V → Prop
  | non : VR K am H .non .non
  | bl (b : Bool) : VR K am H (.bl b) (.bl b)
  | int (i : Int) : VR K am H (.int i) (.int i)
  | str (x : Str) : VR K am H (.str x) (.str x)
  | tup {a : Addr} {vs : List V} {ds : List D} : TupAt K am H a vs → VRs K am H ds vs → VR K am H (.tup ds) (.ref a)
  | tpi {a : Addr} {vs : List V} {ds : List D} : TpiAt am H a vs → VRs K am H ds vs → VR K am H (.tpi ds) (.ref a)
  | lst {a : Addr} {vs : List V} {ds : List D} : H a = some (.lst vs) → a ∉ am.no → VRs K am H ds vs → VR K am H (.lst ds) (.ref a)
  | fls {a : Addr} {vs : List V} {ds : List D} : LstAt K am H a vs → VRs K am H ds vs → VR K am H (.fls ds) (.ref a)
  | dct {a : Addr} {vs : List (Key × V)} {ds : List (Key × D)} : H a = some (.dK vs) → a ∉ am.no → VRk K am H ds vs → VR K am H (.dct ds) (.ref a)
  | ref {n : Nat} {a : Addr} : am.ad[n]? = some a → VR K am H (.ref n) (.ref a)
inductive VRs (K : PySem.W.Frag) (am : AM) (H : Hp) : List D → List V → Prop
  | nil : VRs K am H [] []
  | cons {d : D} {v : V} {ds : List D} {vs : List V} : VR K am H d v → VRs K am H ds vs → VRs K am H (d :: ds) (v :: vs)
inductive VRk (K : PySem.W.Frag) (am : AM) (H : Hp) : List (Key × D) → List (Key × V) → Prop
  | nil : VRk K am H [] []
  | cons {k : Key} {d : D} {v : V} {ds : List (Key × D)} {vs : List (Key × V)} : VR K am H d v → VRk K am H ds vs → VRk K am H ((k, d) :: ds) ((k, v) :: vs)
end
/-- what keeps values as they are -/
structure Ext (am am' : AM) (H H' : Hp) : Prop where
  ad : ∀ (n : Nat) (a : Addr), am.ad[n]? = some a → am'.ad[n]? = some a
  keep : ∀ (b : Addr) (o : HO), H b = some o → b ∉ am.no → H' b = some o ∧ b ∉ am'.no
/-- what a step does to the heap: nothing to what is not in the store; new ones of the store are new -/
structure Grow (am am' : AM) (H H' : Hp) : Prop where
  pre : ∃ r, am'.ad = am.ad ++ r
  fresh : ∀ b, b ∈ am'.ad → b ∉ am.ad → H b = none
  freshNo : ∀ b, b ∈ am'.no → b ∉ am.no → H b = none
  noK : ∀ b, b ∈ am.no → b ∈ am'.no
  keep : ∀ b o, H b = some o → b ∉ am.ad → H' b = some o
theorem Grow.get {am am' : AM} {H H' : Hp} (g : Grow am am' H H') {n : Nat} {a : Addr} (h : am.ad[n]? = some a) : am'.ad[n]? = some a := by
  obtain ⟨r, e⟩ := g.pre
  rw [e]
  have hl := (List.getElem?_eq_some_iff.mp h).1
  rw [List.getElem?_append_left hl]
  exact h
theorem Grow.ext {am am' : AM} {H H' : Hp} (g : Grow am am' H H') : Ext am am' H H' := ⟨fun n a h => g.get h, fun b o h n => ⟨g.keep b o h fun z => n (am.sub b z), fun z => by
  have q := g.freshNo b z n
  rw [h] at q; cases q⟩⟩
theorem Grow.refl {am : AM} {H : Hp} : Grow am am H H := ⟨⟨[], by simp⟩, fun _ h h' => absurd h h', fun _ h h' => absurd h h', fun _ h => h, fun _ _ h _ => h⟩
theorem Grow.trans {a b c : AM} {H H1 H2 : Hp} (g : Grow a b H H1) (g' : Grow b c H1 H2) : Grow a c H H2 := by
  obtain ⟨r, e⟩ := g.pre
  obtain ⟨r', e'⟩ := g'.pre
  have ina : ∀ x o, H x = some o → x ∉ a.ad → x ∉ b.ad := fun x o h n hb => by
    have z := g.fresh x hb n
    rw [h] at z; cases z
  refine ⟨⟨r ++ r', by rw [e', e, List.append_assoc]⟩, fun x hx n => ?_, fun x hx n => ?_, fun x hx => g'.noK x (g.noK x hx), fun x o h n => g'.keep x o (g.keep x o h n) (ina x o h n)⟩
  · cases q : H x with
    | none => rfl
    | some o =>
      have h1 := g.keep x o q n
      have h2 := g'.fresh x hx (ina x o q n)
      rw [h1] at h2; cases h2
  · cases q : H x with
    | none => rfl
    | some o =>
      have n1 : x ∉ a.ad := fun z => n (a.sub x z)
      have h1 := g.keep x o q n1
      have nb : x ∉ b.no := fun z => by
        have q2 := g.freshNo x z n
        rw [q] at q2; cases q2
      have h2 := g'.freshNo x hx nb
      rw [h1] at h2; cases h2
theorem Ext.rd {am am' : AM} {H H' : Hp} (g : Ext am am' H H') {b : Addr} {u : HO} (h : Rd H b u) (n : b ∉ am.no) : Rd H' b u ∧ b ∉ am'.no := by
  rcases h with h | ⟨o, h⟩
  · exact ⟨.inl (g.keep _ _ h n).1, (g.keep _ _ h n).2⟩
  · exact ⟨.inr ⟨o, (g.keep _ _ h n).1⟩, (g.keep _ _ h n).2⟩
theorem TupAt.ext {K : PySem.W.Frag} {am am' : AM} {H H' : Hp} (g : Ext am am' H H') {a : Addr} {vs : List V} (h : TupAt K am H a vs) : TupAt K am' H' a vs := by
  rcases h with ⟨o, h, d, n⟩ | h
  · exact .inl ⟨o, (g.keep _ _ h n).1, d, (g.keep _ _ h n).2⟩
  · exact .inr h
theorem TpiAt.ext {am am' : AM} {H H' : Hp} (g : Ext am am' H H') {a : Addr} {vs : List V} (h : TpiAt am H a vs) : TpiAt am' H' a vs := g.rd h.1 h.2
theorem LstAt.ext {K : PySem.W.Frag} {am am' : AM} {H H' : Hp} (g : Ext am am' H H') {a : Addr} {vs : List V} (h : LstAt K am H a vs) : LstAt K am' H' a vs := by
  rcases h with ⟨h, n⟩ | h
  · exact .inl (g.rd h n)
  · exact .inr h
section
variable {K : PySem.W.Frag} {am am' : AM} {H H' : Hp}
mutual
theorem VR.ext (g : Ext am am' H H') : ∀ {d : D} {v : V}, VR K am H d v → VR K am' H' d v
  | _, _, .non => .non
  | _, _, .bl b => .bl b
  | _, _, .int i => .int i
  | _, _, .str x => .str x
  | _, _, .tup h hs => .tup (h.ext g) (VRs.ext g hs)
  | _, _, .tpi h hs => .tpi (h.ext g) (VRs.ext g hs)
  | _, _, .lst h n hs => .lst (g.keep _ _ h n).1 (g.keep _ _ h n).2 (VRs.ext g hs)
  | _, _, .fls h hs => .fls (h.ext g) (VRs.ext g hs)
  | _, _, .dct h n hs => .dct (g.keep _ _ h n).1 (g.keep _ _ h n).2 (VRk.ext g hs)
  | _, _, .ref h => .ref (g.ad _ _ h)
theorem VRs.ext (g : Ext am am' H H') : ∀ {ds : List D} {vs : List V}, VRs K am H ds vs → VRs K am' H' ds vs
  | _, _, .nil => .nil
  | _, _, .cons h t => .cons (VR.ext g h) (VRs.ext g t)
theorem VRk.ext (g : Ext am am' H H') : ∀ {ds : List (Key × D)} {vs : List (Key × V)}, VRk K am H ds vs → VRk K am' H' ds vs
  | _, _, .nil => .nil
  | _, _, .cons h t => .cons (VR.ext g h) (VRk.ext g t)
end
theorem VR.mono (g : Grow am am' H H') {d : D} {v : V} (h : VR K am H d v) : VR K am' H' d v := h.ext g.ext
theorem VRs.mono (g : Grow am am' H H') {ds : List D} {vs : List V} (h : VRs K am H ds vs) : VRs K am' H' ds vs := h.ext g.ext
theorem VRk.mono (g : Grow am am' H H') {ds : List (Key × D)} {vs : List (Key × V)} (h : VRk K am H ds vs) : VRk K am' H' ds vs := h.ext g.ext
end
abbrev VRf (K : PySem.W.Frag) (am : AM) (H : Hp) : List (Str × D) → List (Str × V) → Prop := Paired fun p q => p.1 = q.1 ∧ VR K am H p.2 q.2
def OR (K : PySem.W.Frag) (cl : Str → Addr) (am : AM) (H : Hp) (a : Addr) : DO → Prop
  | .lst ds => ∃ vs, H a = some (.lst vs) ∧ VRs K am H ds vs
  | .dct ds => ∃ vs, H a = some (.dK vs) ∧ VRk K am H ds vs
  | .ins c fs => ∃ dx vs, H a = some (.ins (cl c) dx vs) ∧ VRf K am H fs vs
structure RelS (K : PySem.W.Frag) (cl : Str → Addr) (am : AM) (S : Sto) (H : Hp) : Prop where
  len : am.ad.length = S.length
  nd : am.ad.Nodup
  ob : ∀ (k : Nat) (o : DO) (a : Addr), S[k]? = some o → am.ad[k]? = some a → OR K cl am H a o
  there : ∀ a, a ∈ am.no → ∃ o, H a = some o
/-- slots -/
structure RelE (K : PySem.W.Frag) (am : AM) (H : Hp) (e : En) (σ : L2.St) : Prop where
  len : e.length = σ.length
  get : ∀ (i : Nat) (d : D), e[i]? = some (some d) → ∃ v, σ[i]? = some (some v) ∧ VR K am H d v
/-- slots forgotten -/
def wipeE (e : En) : List Nat → En
  | [] => e
  | v :: vs => (wipeE e vs).set v none
section
variable {K : PySem.W.Frag} {cl : Str → Addr} {am am' : AM} {H H' : Hp} {S S' : Sto}
theorem RelE.ext (g : Ext am am' H H') {e : En} {σ : L2.St} (r : RelE K am H e σ) : RelE K am' H' e σ := ⟨r.len, fun i d h => by
  obtain ⟨v, h1, h2⟩ := r.get i d h
  exact ⟨v, h1, h2.ext g⟩⟩
theorem RelE.mono (g : Grow am am' H H') {e : En} {σ : L2.St} (r : RelE K am H e σ) : RelE K am' H' e σ := r.ext g.ext
theorem RelE.set {e : En} {σ : L2.St} (r : RelE K am H e σ) (i : Nat) {d : D} {v : V} (h : VR K am H d v) : RelE K am H (e.set i (some d)) (σ.set i (some v)) := ⟨by rw [List.length_set, List.length_set]; exact r.len, fun j x hx => by
  by_cases hj : i = j
  · subst hj
    rw [List.getElem?_set_self'] at hx ⊢
    cases q : e[i]? with
    | none => rw [q] at hx; cases hx
    | some z =>
      rw [q] at hx
      have e1 : d = x := Option.some.inj (Option.some.inj hx)
      subst e1
      have hi := (List.getElem?_eq_some_iff.mp q).1
      rw [r.len] at hi
      rw [List.getElem?_eq_getElem hi]
      exact ⟨v, rfl, h⟩
  · rw [List.getElem?_set_ne hj] at hx ⊢
    exact r.get j x hx⟩
theorem RelE.wipe1 {e : En} {σ : L2.St} (r : RelE K am H e σ) (i : Nat) : RelE K am H (e.set i none) σ := ⟨by rw [List.length_set]; exact r.len, fun j x hx => by
  by_cases hj : i = j
  · subst hj
    rw [List.getElem?_set_self'] at hx
    cases q : e[i]? with
    | none => rw [q] at hx; cases hx
    | some z =>
      rw [q] at hx
      cases Option.some.inj hx
  · rw [List.getElem?_set_ne hj] at hx
    exact r.get j x hx⟩
theorem RelE.forget {e : En} {σ : L2.St} (r : RelE K am H e σ) : ∀ vs, RelE K am H (wipeE e vs) σ
  | [] => r
  | v :: vs => (RelE.forget r vs).wipe1 v
theorem RelE.wipe {e : En} {σ : L2.St} (r : RelE K am H e σ) : ∀ vs, RelE K am H (wipeE e vs) (L2.wipe σ vs)
  | [] => r
  | v :: vs => by
    have q := RelE.wipe r vs
    refine ⟨?_, fun j x hx => ?_⟩
    · show ((wipeE e vs).set v none).length = ((L2.wipe σ vs).set v none).length
      rw [List.length_set, List.length_set]
      exact q.len
    · have hx' : ((wipeE e vs).set v none)[j]? = some (some x) := hx
      show ∃ y, ((L2.wipe σ vs).set v none)[j]? = some (some y) ∧ _
      by_cases hj : v = j
      · subst hj
        rw [List.getElem?_set_self'] at hx'
        cases q : (wipeE e vs)[v]? with
        | none => rw [q] at hx'; cases hx'
        | some z =>
          rw [q] at hx'
          cases Option.some.inj hx'
      · rw [List.getElem?_set_ne hj] at hx' ⊢
        exact q.get j x hx'
theorem RelS.has {k : Nat} {o : DO} (r : RelS K cl am S H) (h : S[k]? = some o) : ∃ a, am.ad[k]? = some a ∧ OR K cl am H a o := by
  have hk := (List.getElem?_eq_some_iff.mp h).1
  have hk' : k < am.ad.length := by rw [r.len]; exact hk
  exact ⟨am.ad[k], List.getElem?_eq_getElem hk', r.ob k o _ h (List.getElem?_eq_getElem hk')⟩
theorem OR.ext (g : Ext am am' H H') {a : Addr} {o : DO} (h : OR K cl am H a o) (k : ∀ u, H a = some u → H' a = some u) : OR K cl am' H' a o := by
  cases o with
  | lst ds => obtain ⟨vs, h1, h2⟩ := h; exact ⟨vs, k _ h1, h2.ext g⟩
  | dct ds => obtain ⟨vs, h1, h2⟩ := h; exact ⟨vs, k _ h1, h2.ext g⟩
  | ins c fs => obtain ⟨dx, vs, h1, h2⟩ := h; exact ⟨dx, vs, k _ h1, Paired.mapP h2 fun p q z => ⟨z.1, z.2.ext g⟩⟩
theorem OR.mono (g : Grow am am' H H') {a : Addr} {o : DO} (h : OR K cl am H a o) (k : ∀ u, H a = some u → H' a = some u) : OR K cl am' H' a o := h.ext g.ext k
theorem RelS.new (r : RelS K cl am S H) {p : Addr} (h : H p = none) : p ∉ am.no := fun hp => by
  obtain ⟨o, e⟩ := r.there p hp
  rw [h] at e; cases e
/-- a new object that is not of the store -/
theorem Grow.upd {o : HO} {p : Addr} (h : H p = none) : Grow am am H (upd H p o) := ⟨⟨[], by simp⟩, fun _ h h' => absurd h h', fun _ h h' => absurd h h', fun _ h => h, fun b u hb _ => by
  rw [upd_ne (ne_of_none hb h)]
  exact hb⟩
theorem RelS.upd (r : RelS K cl am S H) {o : HO} {p : Addr} (h : H p = none) : RelS K cl am S (upd H p o) :=
  ⟨r.len, r.nd, fun k u a h1 h2 => (r.ob k u a h1 h2).mono (Grow.upd h) fun w hw => by rw [upd_ne (ne_of_none hw h)]; exact hw, fun a ha => by
    obtain ⟨u, e⟩ := r.there a ha
    exact ⟨u, by rw [upd_ne (ne_of_none e h)]; exact e⟩⟩
/-- an object of the store is changed -/
theorem Grow.put {a : Addr} {o : HO} (h : a ∈ am.ad) : Grow am am H (L2.upd H a o) := ⟨⟨[], by simp⟩, fun _ h h' => absurd h h', fun _ h h' => absurd h h', fun _ h => h, fun b u hb nb => by
  rw [upd_ne (show b ≠ a from fun e => nb (by rw [e]; exact h))]
  exact hb⟩
theorem RelS.put {k : Nat} {a : Addr} {o : DO} {u : HO} (r : RelS K cl am S H) (hk : am.ad[k]? = some a) (h : OR K cl am (L2.upd H a u) a o) : RelS K cl am (S.set k o) (L2.upd H a u) := by
  have hm : a ∈ am.ad := List.mem_of_getElem? hk
  refine ⟨by rw [List.length_set]; exact r.len, r.nd, fun j w b h1 h2 => ?_, fun b hb => ?_⟩
  · by_cases hj : k = j
    · subst hj
      rw [hk] at h2
      cases h2
      have hl : k < S.length := by rw [← r.len]; exact (List.getElem?_eq_some_iff.mp hk).1
      rw [List.getElem?_set_self hl] at h1
      cases h1
      exact h
    · rw [List.getElem?_set_ne hj] at h1
      refine (r.ob j w b h1 h2).mono (Grow.put hm) fun z hz => ?_
      rw [upd_ne]
      · exact hz
      · intro e
        subst e
        exact hj (nd_ix r.nd hk h2)
  · by_cases e : b = a
    · exact ⟨u, by rw [e]; exact upd_same⟩
    · obtain ⟨w, q⟩ := r.there b hb
      exact ⟨w, by rw [upd_ne e]; exact q⟩
/-- an address is kept for a new object -/
def AM.resv (am : AM) (a : Addr) : AM := ⟨am.ad, a :: am.no, fun b hb => List.mem_cons_of_mem _ (am.sub b hb)⟩
/-- .. it comes into the store -/
def AM.push (am : AM) (a : Addr) (h : a ∈ am.no) : AM := ⟨am.ad ++ [a], am.no, fun b hb => by
  rcases List.mem_append.mp hb with hb | hb
  · exact am.sub b hb
  · have e : b = a := by simpa using hb
    rw [e]
    exact h⟩
/-- .. it does not -/
def AM.free (am : AM) (a : Addr) (h : a ∉ am.ad) : AM := ⟨am.ad, am.no.filter fun b => decide (b ≠ a), fun b hb => List.mem_filter.mpr ⟨am.sub b hb, decide_eq_true fun e => h (by rw [← e]; exact hb)⟩⟩
theorem AM.free_not {a : Addr} (h : a ∉ am.ad) : a ∉ (am.free a h).no := fun z => (of_decide_eq_true (List.mem_filter.mp z).2) rfl
theorem Grow.resv {a : Addr} {o : HO} (h : H a = none) : Grow am (am.resv a) H (L2.upd H a o) := ⟨⟨[], by simp [AM.resv]⟩, fun _ h h' => absurd h h', fun b hb nb => by
  rcases List.mem_cons.mp hb with e | hb
  · rw [e]; exact h
  · exact absurd hb nb, fun b hb => List.mem_cons_of_mem _ hb, fun b u hb _ => by rw [upd_ne (ne_of_none hb h)]; exact hb⟩
theorem RelS.resv (r : RelS K cl am S H) {a : Addr} {o : HO} (h : H a = none) : RelS K cl (am.resv a) S (L2.upd H a o) :=
  ⟨r.len, r.nd, fun k u b h1 h2 => (r.ob k u b h1 h2).mono (Grow.resv h) fun w hw => by rw [upd_ne (ne_of_none hw h)]; exact hw, fun b hb => by
    rcases List.mem_cons.mp hb with e | hb
    · exact ⟨o, by rw [e]; exact upd_same⟩
    · obtain ⟨u, e⟩ := r.there b hb
      exact ⟨u, by rw [upd_ne (ne_of_none e h)]; exact e⟩⟩
theorem Ext.push {a : Addr} (h : a ∈ am.no) : Ext am (am.push a h) H H := ⟨fun n b hb => by
  show (am.ad ++ [a])[n]? = some b
  rw [List.getElem?_append_left (List.getElem?_eq_some_iff.mp hb).1]
  exact hb, fun b o hb nb => ⟨hb, nb⟩⟩
theorem Ext.free {a : Addr} (h : a ∉ am.ad) : Ext am (am.free a h) H H := ⟨fun n b hb => hb, fun b o hb nb => ⟨hb, fun z => nb (List.mem_filter.mp z).1⟩⟩
theorem Grow.push {a : Addr} (g : Grow am am' H H') (h : a ∈ am'.no) (n : H a = none) : Grow am (am'.push a h) H H' := by
  obtain ⟨r, e⟩ := g.pre
  refine ⟨⟨r ++ [a], by show am'.ad ++ [a] = _; rw [e, List.append_assoc]⟩, fun b hb nb => ?_, g.freshNo, g.noK, g.keep⟩
  rcases List.mem_append.mp hb with hb | hb
  · exact g.fresh b hb nb
  · have e : b = a := by simpa using hb
    rw [e]
    exact n
theorem Grow.free {a : Addr} (g : Grow am am' H H') (h : a ∉ am'.ad) (n : a ∉ am.no) : Grow am (am'.free a h) H H' := ⟨g.pre, g.fresh, fun b hb nb => g.freshNo b (List.mem_filter.mp hb).1 nb, fun b hb => List.mem_filter.mpr ⟨g.noK b hb, decide_eq_true fun e => n (by rw [← e]; exact hb)⟩, g.keep⟩
theorem RelS.push (r : RelS K cl am S H) {a : Addr} {o : DO} (h : a ∈ am.no) (n : a ∉ am.ad) (ho : OR K cl am H a o) : RelS K cl (am.push a h) (S ++ [o]) H := by
  refine ⟨?_, ?_, fun k u b h1 h2 => ?_, r.there⟩
  · show (am.ad ++ [a]).length = (S ++ [o]).length
    rw [List.length_append, List.length_append, r.len]
    rfl
  · show (am.ad ++ [a]).Nodup
    exact nd_snoc r.nd n
  · have h2 : (am.ad ++ [a])[k]? = some b := h2
    by_cases hk : k < S.length
    · rw [List.getElem?_append_left hk] at h1
      rw [List.getElem?_append_left (by rw [r.len]; exact hk)] at h2
      exact (r.ob k u b h1 h2).ext (Ext.push h) fun _ z => z
    · have hk' : S.length ≤ k := Nat.le_of_not_lt hk
      rw [List.getElem?_append_right hk'] at h1
      rw [List.getElem?_append_right (by rw [r.len]; exact hk'), r.len] at h2
      cases e : k - S.length with
      | zero =>
        rw [e] at h1 h2
        cases h1
        cases h2
        exact ho.ext (Ext.push h) fun _ z => z
      | succ m => rw [e] at h1; simp at h1
theorem RelS.free (r : RelS K cl am S H) {a : Addr} (h : a ∉ am.ad) : RelS K cl (am.free a h) S H :=
  ⟨r.len, r.nd, fun k u b h1 h2 => (r.ob k u b h1 h2).ext (Ext.free h) fun _ z => z, fun b hb => r.there b (List.mem_filter.mp hb).1⟩
end
section
variable {K : PySem.W.Frag} {cl : Str → Addr} {am am' : AM} {H H' : Hp} {S S' : Sto}
theorem VRs.length : ∀ {ds : List D} {vs : List V}, VRs K am H ds vs → ds.length = vs.length
  | _, _, .nil => rfl
  | _, _, .cons _ t => by rw [List.length_cons, List.length_cons, VRs.length t]
theorem VRs.get : ∀ {ds : List D} {vs : List V} {i : Nat} {d : D}, VRs K am H ds vs → ds[i]? = some d → ∃ v, vs[i]? = some v ∧ VR K am H d v
  | _, _, i, _, .nil, h => by simp at h
  | _, _, 0, _, .cons h _, e => by simp at e; subst e; exact ⟨_, rfl, h⟩
  | _, _, i + 1, _, .cons _ t, e => by
    obtain ⟨v, h1, h2⟩ := VRs.get (i := i) t (by simpa using e)
    exact ⟨v, by simpa using h1, h2⟩
theorem VRs.append : ∀ {ds es : List D} {vs us : List V}, VRs K am H ds vs → VRs K am H es us → VRs K am H (ds ++ es) (vs ++ us)
  | _, _, _, _, .nil, h => h
  | _, _, _, _, .cons h t, h' => .cons h (VRs.append t h')
theorem VRs.take : ∀ {ds : List D} {vs : List V} (n : Nat), VRs K am H ds vs → VRs K am H (ds.take n) (vs.take n)
  | _, _, 0, _ => by simpa using VRs.nil
  | _, _, n + 1, .nil => by simpa using VRs.nil
  | _, _, n + 1, .cons h t => by simpa using VRs.cons h (VRs.take n t)
theorem VRs.drop : ∀ {ds : List D} {vs : List V} (n : Nat), VRs K am H ds vs → VRs K am H (ds.drop n) (vs.drop n)
  | _, _, 0, h => by simpa using h
  | _, _, n + 1, .nil => by simpa using VRs.nil
  | _, _, n + 1, .cons h t => by simpa using VRs.drop n t
theorem VRs.setA : ∀ {ds : List D} {vs : List V} (i : Nat) {d : D} {v : V}, VRs K am H ds vs → VR K am H d v → VRs K am H (ds.set i d) (vs.set i v)
  | _, _, _, _, _, .nil, _ => by simpa using VRs.nil
  | _, _, 0, _, _, .cons _ t, h => by simpa using VRs.cons h t
  | _, _, i + 1, _, _, .cons h t, h' => by simpa using VRs.cons h (VRs.setA i t h')
theorem VRs.none_of {ds : List D} {vs : List V} {i : Nat} (h : VRs K am H ds vs) (e : ds[i]? = none) : vs[i]? = none := by
  have h1 := h.length
  have h2 : ds.length ≤ i := List.getElem?_eq_none_iff.mp e
  exact List.getElem?_eq_none_iff.mpr (by omega)
theorem VRs.nil_iff {ds : List D} {vs : List V} (h : VRs K am H ds vs) : vs = [] ↔ ds = [] := by
  cases h with
  | nil => simp
  | cons _ _ => simp
theorem VRs.reverse : ∀ {ds : List D} {vs : List V}, VRs K am H ds vs → VRs K am H ds.reverse vs.reverse
  | _, _, .nil => .nil
  | _, _, .cons h t => by
    rw [List.reverse_cons, List.reverse_cons]
    exact (VRs.reverse t).append (.cons h .nil)
/-- a new tuple -/
theorem VR.tupNew {ds : List D} {vs : List V} {p : Addr} {o : Obj} (r : RelS K cl am S H) (h : VRs K am H ds vs) (hp : H p = none) (ho : o.dict = none) : VR K am (upd H p (.frz o (.tup vs))) (.tup ds) (.ref p) :=
  .tup (.inl ⟨o, upd_same, ho, r.new hp⟩) (h.mono (Grow.upd hp))
theorem VR.tpiNew {ds : List D} {vs : List V} {p : Addr} (r : RelS K cl am S H) (h : VRs K am H ds vs) (hp : H p = none) : VR K am (upd H p (.tup vs)) (.tpi ds) (.ref p) :=
  .tpi ⟨.inl upd_same, r.new hp⟩ (h.mono (Grow.upd hp))
theorem VR.lstNew {ds : List D} {vs : List V} {p : Addr} (r : RelS K cl am S H) (h : VRs K am H ds vs) (hp : H p = none) : VR K am (upd H p (.lst vs)) (.lst ds) (.ref p) :=
  .lst upd_same (r.new hp) (h.mono (Grow.upd hp))
end

/-- of an evaluation: R ties the pure result to the real one; W is what is wished of an exception at the slots σ -/
def Post (K : PySem.W.Frag) (cl : Str → Addr) (W : WX) (σ : L2.St) {α β : Type} (R : AM → Hp → α → β → Prop) (am : AM) (H : Hp) (r : Res α) (Q : β → Hp → Prop) : Prop := match r with
  | .ok a S => ∀ am' b H', Grow am am' H H' → RelS K cl am' S H' → R am' H' a b → Q b H'
  | .exc c S => ∀ am' H', Grow am am' H H' → RelS K cl am' S H' → W (.ref (cl c)) none σ H'
  | .bad => False
/-- the reading of a pure evaluation -/
def TD (K : PySem.W.Frag) (cl : Str → Addr) (W : WX) {α β : Type} (R : AM → Hp → α → β → Prop) (f : Ev α) : L2.St → Hp → (β → Hp → Prop) → Prop := fun σ H Q =>
  ∃ am e S, RelS K cl am S H ∧ RelE K am H e σ ∧ Post K cl W σ R am H (f e S) Q
abbrev RB : AM → Hp → Bool → Bool → Prop := fun _ _ a b => a = b
def PostS (K : PySem.W.Frag) (cl : Str → Addr) (W : WX) (am : AM) (H : Hp) (r : SRes) (E : Ends) : Prop := match r with
  | .next e S => ∀ am' σ H', Grow am am' H H' → RelS K cl am' S H' → RelE K am' H' e σ → E.nx σ H'
  | .brk e S => ∀ am' σ H', Grow am am' H H' → RelS K cl am' S H' → RelE K am' H' e σ → E.bk σ H'
  | .cnt e S => ∀ am' σ H', Grow am am' H H' → RelS K cl am' S H' → RelE K am' H' e σ → E.ct σ H'
  | .ret d S => ∀ am' v H', Grow am am' H H' → RelS K cl am' S H' → VR K am' H' d v → E.rt v H'
  | .exc c e S => ∀ am' σ H', Grow am am' H H' → RelS K cl am' S H' → RelE K am' H' e σ → W (.ref (cl c)) none σ H'
  | .bad => False
def TDs (K : PySem.W.Frag) (cl : Str → Addr) (W : WX) (f : Stm) : TS := fun E σ H => ∃ am e S, RelS K cl am S H ∧ RelE K am H e σ ∧ PostS K cl W am H (f e S) E
section
variable {K : PySem.W.Frag} {cl : Str → Addr} {W : WX} {σ : L2.St} {α β γ δ : Type} {R : AM → Hp → α → β → Prop} {R' : AM → Hp → γ → δ → Prop} {am am' : AM} {H H' : Hp} {S : Sto}
theorem Post.imp {r : Res α} {Q Q' : β → Hp → Prop} (p : Post K cl W σ R am H r Q) (h : ∀ b H', Q b H' → Q' b H') : Post K cl W σ R am H r Q' := by
  cases r with
  | ok a S => exact fun am' b H' g rs rb => h _ _ (p am' b H' g rs rb)
  | exc c S => exact p
  | bad => exact p
/-- a step of an evaluation, then the rest -/
theorem Post.step {r : Res α} {k : α → Sto → Res γ} {Q : δ → Hp → Prop} (p : Post K cl W σ R' am H (r.bind k) Q) :
    Post K cl W σ R am H r (fun b H1 => ∃ am1 S1 a, r = .ok a S1 ∧ Grow am am1 H H1 ∧ RelS K cl am1 S1 H1 ∧ R am1 H1 a b ∧ Post K cl W σ R' am1 H1 (k a S1) Q) := by
  cases r with
  | ok a S =>
    intro am1 b H1 g rs rb
    refine ⟨am1, S, a, rfl, g, rs, rb, ?_⟩
    have p : Post K cl W σ R' am H (k a S) Q := p
    cases e : k a S with
    | ok c S2 =>
      rw [e] at p
      exact fun am2 d H2 g2 rs2 rd => p am2 d H2 (g.trans g2) rs2 rd
    | exc c S2 =>
      rw [e] at p
      exact fun am2 H2 g2 rs2 => p am2 H2 (g.trans g2) rs2
    | bad => rw [e] at p; exact p
  | exc c S => exact p
  | bad => exact p
theorem Post.fin {a : α} {b : β} {Q : β → Hp → Prop} (p : Post K cl W σ R am H (.ok a S) Q) (g : Grow am am' H H') (rs : RelS K cl am' S H') (rb : R am' H' a b) : Q b H' := p am' b H' g rs rb
theorem PostS.grow {r : SRes} {E : Ends} (g : Grow am am' H H') (p : PostS K cl W am H r E) : PostS K cl W am' H' r E := by
  cases r with
  | next e S => exact fun am2 σ H2 g2 rs re => p am2 σ H2 (g.trans g2) rs re
  | brk e S => exact fun am2 σ H2 g2 rs re => p am2 σ H2 (g.trans g2) rs re
  | cnt e S => exact fun am2 σ H2 g2 rs re => p am2 σ H2 (g.trans g2) rs re
  | ret d S => exact fun am2 v H2 g2 rs rv => p am2 v H2 (g.trans g2) rs rv
  | exc c e S => exact fun am2 σ H2 g2 rs re => p am2 σ H2 (g.trans g2) rs re
  | bad => exact p
/-- an evaluation, then a statement's rest -/
def Res.stm {α : Type} (r : Res α) (e : En) (k : α → Sto → SRes) : SRes := match r with
  | .ok a S => k a S
  | .exc c S => .exc c e S
  | .bad => .bad
theorem PostS.step {r : Res α} {k : α → Sto → SRes} {E : Ends} {e : En} (re : RelE K am H e σ) (p : PostS K cl W am H (r.stm e k) E) :
    Post K cl W σ R am H r (fun b H1 => ∃ am1 S1 a, r = .ok a S1 ∧ Grow am am1 H H1 ∧ RelS K cl am1 S1 H1 ∧ R am1 H1 a b ∧ PostS K cl W am1 H1 (k a S1) E) := by
  cases r with
  | ok a S =>
    intro am1 b H1 g rs rb
    exact ⟨am1, S, a, rfl, g, rs, rb, PostS.grow g p⟩
  | exc c S => exact fun am' H' g rs => p am' σ H' g rs (re.mono g)
  | bad => exact p
end
@[simp] theorem Res.stm_ok {α : Type} {a : α} {S : Sto} {e : En} {k : α → Sto → SRes} : (Res.ok a S).stm e k = k a S := id rfl
@[simp] theorem Res.stm_exc {α : Type} {c : Str} {S : Sto} {e : En} {k : α → Sto → SRes} : (Res.exc c S : Res α).stm e k = .exc c e S := id rfl
@[simp] theorem Res.stm_bad {α : Type} {e : En} {k : α → Sto → SRes} : (Res.bad : Res α).stm e k = .bad := id rfl
def SRes.seq (r : SRes) (k : En → Sto → SRes) : SRes := match r with
  | .next e S => k e S
  | r => r
@[simp] theorem SRes.seq_next {e : En} {S : Sto} {k : En → Sto → SRes} : (SRes.next e S).seq k = k e S := id rfl
@[simp] theorem SRes.seq_ret {d : D} {S : Sto} {k : En → Sto → SRes} : (SRes.ret d S).seq k = .ret d S := id rfl
@[simp] theorem SRes.seq_brk {e : En} {S : Sto} {k : En → Sto → SRes} : (SRes.brk e S).seq k = .brk e S := id rfl
@[simp] theorem SRes.seq_cnt {e : En} {S : Sto} {k : En → Sto → SRes} : (SRes.cnt e S).seq k = .cnt e S := id rfl
@[simp] theorem SRes.seq_exc {c : Str} {e : En} {S : Sto} {k : En → Sto → SRes} : (SRes.exc c e S).seq k = .exc c e S := id rfl
@[simp] theorem SRes.seq_bad {k : En → Sto → SRes} : (SRes.bad).seq k = .bad := id rfl

section
variable {X : Cx}
theorem _root_.L2.PE.imp {e : Expr} {t t' : TE} (h : PE X e t) (i : ∀ σ H Q, t' σ H Q → t σ H Q) : PE X e t' := ⟨fun pins s σ H Q I q => h.run pins s σ H Q I (i σ H Q q)⟩
theorem _root_.L2.PT.imp {e : Expr} {t t' : TT} (h : PT X e t) (i : ∀ σ H Q, t' σ H Q → t σ H Q) : PT X e t' := ⟨fun pins s σ H Q I q => h.run pins s σ H Q I (i σ H Q q)⟩
theorem _root_.L2.PW.imp {e : Expr} {t t' : TT} (h : PW X e t) (i : ∀ σ H Q, t' σ H Q → t σ H Q) : PW X e t' := ⟨fun wh pins s σ H Q I q => h.run wh pins s σ H Q I (i σ H Q q)⟩
theorem _root_.L2.PA.imp {es : List Expr} {t t' : TA} (h : PA X es t) (i : ∀ σ H Q, t' σ H Q → t σ H Q) : PA X es t' := ⟨fun pos pins s σ H Q I q => h.run pos pins s σ H Q I (i σ H Q q)⟩
theorem _root_.L2.PS.imp {st : Stmt} {t t' : TS} (h : PS X st t) (i : ∀ E σ H, t' E σ H → t E σ H) : PS X st t' := ⟨fun pins s σ H E I q => h.run pins s σ H E I (i E σ H q)⟩
theorem _root_.L2.PSs.imp {st : List Stmt} {t t' : TS} (h : PSs X st t) (i : ∀ E σ H, t' E σ H → t E σ H) : PSs X st t' := ⟨fun pins s σ H E I q => h.run pins s σ H E I (i E σ H q)⟩
end
abbrev QE (cl : Str → Addr) (W : WX) (X : Cx) (e : Expr) (f : Ev D) : Prop := PE X e (TD X.K cl W (VR X.K) f)
abbrev QT (cl : Str → Addr) (W : WX) (X : Cx) (e : Expr) (f : Ev Bool) : Prop := PT X e (TD X.K cl W RB f)
abbrev QW (cl : Str → Addr) (W : WX) (X : Cx) (e : Expr) (f : Ev Bool) : Prop := PW X e (TD X.K cl W RB f)
abbrev QA (cl : Str → Addr) (W : WX) (X : Cx) (es : List Expr) (f : Ev (List D)) : Prop := PA X es (TD X.K cl W (VRs X.K) f)
abbrev QS (cl : Str → Addr) (W : WX) (X : Cx) (st : Stmt) (f : Stm) : Prop := PS X st (TDs X.K cl W f)
abbrev QB (cl : Str → Addr) (W : WX) (X : Cx) (st : List Stmt) (f : Stm) : Prop := PSs X st (TDs X.K cl W f)
end Pu
set_option Elab.async false
set_option linter.all false
set_option maxRecDepth 100000
namespace Pu
open PySem PySem.Spec PyProof.Rows L2

/-- a list that may be read -/
def lsOf (S : Sto) : D → Option (List D)
  | .lst xs => some xs
  | .fls xs => some xs
  | .ref k => match S[k]? with
    | some (.lst xs) => some xs
    | _ => none
  | _ => none
/-- a list that is not locked -/
def lvOf (S : Sto) : D → Option (List D)
  | .lst xs => some xs
  | .ref k => match S[k]? with
    | some (.lst xs) => some xs
    | _ => none
  | _ => none
def dcOf (S : Sto) : D → Option (List (Key × D))
  | .dct xs => some xs
  | .ref k => match S[k]? with
    | some (.dct xs) => some xs
    | _ => none
  | _ => none
@[simp] theorem lsOf_lst {S : Sto} {xs : List D} : lsOf S (.lst xs) = some xs := id rfl
@[simp] theorem lsOf_ref {S : Sto} {k : Nat} {xs : List D} (h : S[k]? = some (.lst xs)) : lsOf S (.ref k) = some xs := by
  simp only [lsOf, h]
@[simp] theorem lsOf_fls {S : Sto} {xs : List D} : lsOf S (.fls xs) = some xs := id rfl
@[simp] theorem lvOf_lst {S : Sto} {xs : List D} : lvOf S (.lst xs) = some xs := id rfl
@[simp] theorem lvOf_ref {S : Sto} {k : Nat} {xs : List D} (h : S[k]? = some (.lst xs)) : lvOf S (.ref k) = some xs := by
  simp only [lvOf, h]
@[simp] theorem dcOf_dct {S : Sto} {xs : List (Key × D)} : dcOf S (.dct xs) = some xs := id rfl
@[simp] theorem dcOf_ref {S : Sto} {k : Nat} {xs : List (Key × D)} (h : S[k]? = some (.dct xs)) : dcOf S (.ref k) = some xs := by
  simp only [dcOf, h]
section
variable {K : PySem.W.Frag} {cl : Str → Addr} {am : AM} {H : Hp} {S : Sto} {d : D} {v : V}
theorem lsOf_ok (r : RelS K cl am S H) (h : VR K am H d v) {xs : List D} (e : lsOf S d = some xs) : ∃ a vs, v = .ref a ∧ SqL K H a vs ∧ VRs K am H xs vs := by
  cases h with
  | lst h1 h2 h3 =>
    cases e
    exact ⟨_, _, rfl, .inl (.inl h1), h3⟩
  | fls h1 h3 =>
    cases e
    exact ⟨_, _, rfl, h1.seq, h3⟩
  | ref h1 =>
    rename_i n a
    simp only [lsOf] at e
    cases q : S[n]? with
    | none => rw [q] at e; cases e
    | some o =>
      rw [q] at e
      cases o with
      | lst ys =>
        cases e
        obtain ⟨vs, h2, h3⟩ := r.ob n _ a q h1
        exact ⟨a, vs, rfl, .inl (.inl h2), h3⟩
      | dct ys => cases e
      | ins c fs => cases e
  | _ => cases e
theorem lvOf_ok (r : RelS K cl am S H) (h : VR K am H d v) {xs : List D} (e : lvOf S d = some xs) : ∃ a vs, v = .ref a ∧ H a = some (.lst vs) ∧ VRs K am H xs vs := by
  cases h with
  | lst h1 h2 h3 =>
    cases e
    exact ⟨_, _, rfl, h1, h3⟩
  | ref h1 =>
    rename_i n a
    simp only [lvOf] at e
    cases q : S[n]? with
    | none => rw [q] at e; cases e
    | some o =>
      rw [q] at e
      cases o with
      | lst ys =>
        cases e
        obtain ⟨vs, h2, h3⟩ := r.ob n _ a q h1
        exact ⟨a, vs, rfl, h2, h3⟩
      | dct ys => cases e
      | ins c fs => cases e
  | _ => cases e
theorem dcOf_ok (r : RelS K cl am S H) (h : VR K am H d v) {xs : List (Key × D)} (e : dcOf S d = some xs) : ∃ a vs, v = .ref a ∧ H a = some (.dK vs) ∧ VRk K am H xs vs := by
  cases h with
  | dct h1 h2 h3 =>
    cases e
    exact ⟨_, _, rfl, h1, h3⟩
  | ref h1 =>
    rename_i n a
    simp only [dcOf] at e
    cases q : S[n]? with
    | none => rw [q] at e; cases e
    | some o =>
      rw [q] at e
      cases o with
      | dct ys =>
        cases e
        obtain ⟨vs, h2, h3⟩ := r.ob n _ a q h1
        exact ⟨a, vs, rfl, h2, h3⟩
      | lst ys => cases e
      | ins c fs => cases e
  | _ => cases e
end

def eC (d : D) : Ev D := fun _ S => .ok d S
def eVar (i : Nat) : Ev D := fun e S => match e[i]? with
  | some (some d) => .ok d S
  | _ => .bad
section
variable {cl : Str → Addr} {W : WX} {X : Cx}
theorem imp_c {d : D} {v : V} (h : ∀ am H, VR X.K am H d v) : ∀ σ H Q, TD X.K cl W (VR X.K) (eC d) σ H Q → tC v σ H Q := fun σ H Q ⟨am, e, S, rs, re, p⟩ => p am v H .refl rs (h am H)
theorem qe_int {i j pos} : QE cl W X (.Constant (.int i) j pos) (eC (.int i)) := pe_int.imp (imp_c fun _ _ => .int i)
theorem qe_bl {b j pos} : QE cl W X (.Constant (.bool b) j pos) (eC (.bl b)) := pe_bl.imp (imp_c fun _ _ => .bl b)
theorem qe_non {j pos} : QE cl W X (.Constant .none j pos) (eC .non) := pe_non.imp (imp_c fun _ _ => .non)
theorem qe_str {x j pos} : QE cl W X (.Constant (.str x) j pos) (eC (.str x)) := pe_str.imp (imp_c fun _ _ => .str x)
theorem qe_glob {x : Str} {d : D} {v : V} {u : Value} {pos : Pos} (hg : Gl X x) (hm : X.mg x = some u) (r : RelV v u) (h : ∀ am H, VR X.K am H d v) (hd : (x == ("__debug__" : Str)) = false := by decide) : QE cl W X (.Name x pos) (eC d) :=
  (pe_glob hg hm r hd).imp (imp_c h)
theorem qv (i : Nat) {x : Str} {pos : Pos} (hN : X.N[i]? = some x := by rfl) (hv : Vis X.env.scope x := by first | exact Or.inl rfl | exact Or.inr (Or.inl rfl) | exact Or.inr (Or.inr rfl)) (hd : (x == ("__debug__" : Str)) = false := by decide)
    (hcd : (x == ("__classdict__" : Str)) = false := by decide) : QE cl W X (.Name x pos) (eVar i) := (pe_var hN hv hd hcd).imp fun σ H Q ⟨am, e, S, rs, re, p⟩ => by
  unfold eVar at p
  cases q : e[i]? with
  | none => rw [q] at p; exact p.elim
  | some z =>
    rw [q] at p
    cases z with
    | none => exact p.elim
    | some d =>
      obtain ⟨v, h1, h2⟩ := re.get i d q
      exact ⟨v, h1, p am v H .refl rs h2⟩
end

def e2 (op : D → D → Sto → Res D) (f g : Ev D) : Ev D := fun e S => (f e S).bind fun x S => (g e S).bind fun y S => op x y S
def e1 (op : D → Sto → Res D) (f : Ev D) : Ev D := fun e S => (f e S).bind fun x S => op x S
def Ok2 (K : PySem.W.Frag) (cl : Str → Addr) (r : R2) (op : D → D → Sto → Res D) : Prop :=
  ∀ (W : WX) (σ : L2.St) (am : AM) (S : Sto) (H : Hp) (d e : D) (v u : V) (Q : VK), RelS K cl am S H → VR K am H d v → VR K am H e u → Post K cl W σ (VR K) am H (op d e S) Q → r v u H Q
def Ok1 (K : PySem.W.Frag) (cl : Str → Addr) (r : V → Hp → VK → Prop) (op : D → Sto → Res D) : Prop :=
  ∀ (W : WX) (σ : L2.St) (am : AM) (S : Sto) (H : Hp) (d : D) (v : V) (Q : VK), RelS K cl am S H → VR K am H d v → Post K cl W σ (VR K) am H (op d S) Q → r v H Q
section
variable {cl : Str → Addr} {W : WX} {X : Cx} {a b c : Expr} {f g h : Ev D} {pos : Pos}
theorem imp_2 {r : R2} {op : D → D → Sto → Res D} (ok : Ok2 X.K cl r op) : ∀ σ H Q, TD X.K cl W (VR X.K) (e2 op f g) σ H Q → tOp r (TD X.K cl W (VR X.K) f) (TD X.K cl W (VR X.K) g) σ H Q := fun σ H Q ⟨am, e, S, rs, re, p⟩ =>
  ⟨am, e, S, rs, re, (Post.step p).imp fun x H1 ⟨am1, S1, d1, _, g1, rs1, rv1, p1⟩ =>
    ⟨am1, e, S1, rs1, re.mono g1, (Post.step p1).imp fun y H2 ⟨am2, S2, d2, _, g2, rs2, rv2, p2⟩ => ok W σ am2 S2 H2 d1 d2 x y Q rs2 (rv1.mono g2) rv2 p2⟩⟩
theorem imp_1 {r : V → Hp → VK → Prop} {op : D → Sto → Res D} (ok : Ok1 X.K cl r op) : ∀ σ H Q, TD X.K cl W (VR X.K) (e1 op f) σ H Q → tUn r (TD X.K cl W (VR X.K) f) σ H Q := fun σ H Q ⟨am, e, S, rs, re, p⟩ =>
  ⟨am, e, S, rs, re, (Post.step p).imp fun x H1 ⟨am1, S1, d1, _, g1, rs1, rv1, p1⟩ => ok W σ am1 S1 H1 d1 x Q rs1 rv1 p1⟩
theorem qe_bin {op : Operator} {r : R2} {o : D → D → Sto → Res D} (ho : OpR X (binaryOp op) r) (ok : Ok2 X.K cl r o) (ha : QE cl W X a f) (hb : QE cl W X b g) : QE cl W X (.BinOp a op b pos) (e2 o f g) := (pe_op ho ha hb).imp (imp_2 ok)
theorem qe_un {op : UnaryOp} {r : V → Hp → VK → Prop} {o : D → Sto → Res D} (ho : UnR X (unaryOp op) r) (ok : Ok1 X.K cl r o) (ha : QE cl W X a f) : QE cl W X (.UnaryOp op a pos) (e1 o f) := (pe_un ho ha).imp (imp_1 ok)
/-- a value that has to be True or False -/
def toB (d : D) (S : Sto) : Res Bool := match d with
  | .bl b => .ok b S
  | _ => .bad
@[simp] theorem toB_bl {b : Bool} {S : Sto} : toB (.bl b) S = .ok b S := id rfl
def eTB (f : Ev D) : Ev Bool := fun e S => (f e S).bind toB
theorem imp_TB : ∀ σ H Q, TD X.K cl W RB (eTB f) σ H Q → TD X.K cl W (VR X.K) f σ H (fun x H' => ∃ k, x = .bl k ∧ Q k H') := fun σ H Q ⟨am, e, S, rs, re, p⟩ =>
  ⟨am, e, S, rs, re, (Post.step p).imp fun x H1 ⟨am1, S1, d1, _, g1, rs1, rv1, p1⟩ => by
    cases d1 with
    | bl b =>
      cases rv1
      exact ⟨b, rfl, p1 am1 b H1 .refl rs1 rfl⟩
    | _ => exact p1.elim⟩
theorem qe_cmp {op : CmpOp} {r : R2} {o : D → D → Sto → Res D} (ho : OpR X (compareOp op) r) (ok : Ok2 X.K cl r o) (ha : QE cl W X a f) (hb : QE cl W X b g) (hm : behindInMarks op b = false) : QE cl W X (.Compare a [op] [b] pos) (e2 o f g) := (pe_cmpR ho ha hb hm).imp (imp_2 ok)
theorem qt_cmp {op : CmpOp} {r : R2} {o : D → D → Sto → Res D} (ho : OpR X (compareOp op) r) (ok : Ok2 X.K cl r o) (ha : QE cl W X a f) (hb : QE cl W X b g) (hm : behindInMarks op b = false) : QT cl W X (.Compare a [op] [b] pos) (eTB (e2 o f g)) :=
  (pt_cmpR ho ha hb hm).imp fun σ H Q t => imp_2 ok _ _ _ (imp_TB _ _ _ t)
/-- a op1 b op2 c -/
def eCh (o o' : D → D → Sto → Res D) (f g h : Ev D) : Ev D := fun e S => (f e S).bind fun x S => (g e S).bind fun y S => (o x y S).bind fun z S => (toB z S).bind fun k S =>
  if k = true then (h e S).bind fun w S => o' y w S else .ok (.bl false) S
/-- what an operation that changes nothing gives -/
def Ok2b (K : PySem.W.Frag) (cl : Str → Addr) (r : R2) (op : D → D → Sto → Res D) : Prop := Ok2 K cl r op ∧ ∀ d e S, ∃ o : Option Bool, op d e S = (opt o S).bind fun b S => .ok (.bl b) S
theorem imp_ch {r r' : R2} {o o' : D → D → Sto → Res D} (ok : Ok2b X.K cl r o) (ok' : Ok2 X.K cl r' o') : ∀ σ H Q, TD X.K cl W (VR X.K) (eCh o o' f g h) σ H Q → tChain r r' (TD X.K cl W (VR X.K) f) (TD X.K cl W (VR X.K) g) (TD X.K cl W (VR X.K) h) σ H Q := fun σ H Q ⟨am, e, S, rs, re, p⟩ =>
  ⟨am, e, S, rs, re, (Post.step p).imp fun x H1 ⟨am1, S1, d1, _, g1, rs1, rv1, p1⟩ =>
    ⟨am1, e, S1, rs1, re.mono g1, (Post.step p1).imp fun y H2 ⟨am2, S2, d2, _, g2, rs2, rv2, p2⟩ => by
      obtain ⟨ob, eo⟩ := ok.2 d1 d2 S2
      refine ok.1 W σ am2 S2 H2 d1 d2 x y _ rs2 (rv1.mono g2) rv2 ?_
      rw [eo] at p2 ⊢
      cases ob with
      | none => exact p2.elim
      | some b =>
        intro am3 z H3 g3 rs3 rv3
        cases rv3
        refine ⟨b, rfl, ?_⟩
        have p3 : Post X.K cl W σ (VR X.K) am2 H2 (if b = true then (h e S2).bind fun w S => o' d2 w S else .ok (.bl false) S2) Q := p2
        cases b with
        | false =>
          show Q (.bl false) H3
          exact p3 am3 _ H3 g3 rs3 (.bl false)
        | true =>
          show TD X.K cl W (VR X.K) h σ H3 _
          refine ⟨am3, e, S2, rs3, re.mono (g1.trans (g2.trans g3)), ?_⟩
          have p4 : Post X.K cl W σ (VR X.K) am2 H2 ((h e S2).bind fun w S => o' d2 w S) Q := p3
          have p5 : Post X.K cl W σ (VR X.K) am3 H3 ((h e S2).bind fun w S => o' d2 w S) Q := by
            cases q : (h e S2).bind fun w S => o' d2 w S with
            | ok a S => rw [q] at p4; exact fun am' b H' gg => p4 am' b H' (g3.trans gg)
            | exc c S => rw [q] at p4; exact fun am' H' gg => p4 am' H' (g3.trans gg)
            | bad => rw [q] at p4; exact p4
          exact (Post.step p5).imp fun w H4 ⟨am4, S4, d4, _, g4, rs4, rv4, p6⟩ => ok' W σ am4 S4 H4 d2 d4 y w Q rs4 ((rv2.mono g3).mono g4) rv4 p6⟩⟩
theorem qe_chain {op op' : CmpOp} {r r' : R2} {o o' : D → D → Sto → Res D} (ho : OpR X (compareOp op) r) (ok : Ok2b X.K cl r o) (ho' : OpR X (compareOp op') r') (ok' : Ok2 X.K cl r' o') (ha : QE cl W X a f) (hb : QE cl W X b g) (hc : QE cl W X c h)
    (hm : lastMarks [op, op'] [b, c] = false := by with_unfolding_all rfl) : QE cl W X (.Compare a [op, op'] [b, c] pos) (eCh o o' f g h) := (pe_chain ho ho' ha hb hc hm).imp (imp_ch ok ok')
theorem qt_chain {op op' : CmpOp} {r r' : R2} {o o' : D → D → Sto → Res D} (ho : OpR X (compareOp op) r) (ok : Ok2b X.K cl r o) (ho' : OpR X (compareOp op') r') (ok' : Ok2 X.K cl r' o') (ha : QE cl W X a f) (hb : QE cl W X b g) (hc : QE cl W X c h)
    (hm : lastMarks [op, op'] [b, c] = false := by with_unfolding_all rfl) : QT cl W X (.Compare a [op, op'] [b, c] pos) (eTB (eCh o o' f g h)) := (pt_chain ho ho' ha hb hc hm).imp fun σ H Q t => imp_ch ok ok' _ _ _ (imp_TB _ _ _ t)
end

def catL (x y : Option (List D)) (S : Sto) : Res D := match x, y with
  | some a, some b => if a.length + b.length ≤ sizeLine then .ok (.lst (a ++ b)) S else .bad
  | _, _ => .bad
def addD (d e : D) (S : Sto) : Res D := match d, e with
  | .int a, .int b => .ok (.int (a + b)) S
  | .str a, .str b => if a.length + b.length ≤ sizeLine then .ok (.str (a ++ b)) S else .bad
  | .tup a, .tup b => if a.length + b.length ≤ sizeLine then .ok (.tup (a ++ b)) S else .bad
  | _, _ => catL (lvOf S d) (lvOf S e) S
def FitMul (i j : Int) : Prop := (-(2 ^ 64) < i ∧ i < 2 ^ 64) ∨ (-(2 ^ 64) < j ∧ j < 2 ^ 64) ∨ (Builtin.Int.intBits i : Int) + (Builtin.Int.intBits j : Int) ≤ 134217728
instance (i j : Int) : Decidable (FitMul i j) := by unfold FitMul; infer_instance
/-- ints in, a value out -/
def intD (C : Int → Int → Prop) [∀ i j, Decidable (C i j)] (g : Int → Int → D) (d e : D) (S : Sto) : Res D := match d, e with
  | .int a, .int b => if C a b then .ok (g a b) S else .bad
  | _, _ => .bad
@[simp] theorem intD_int {C : Int → Int → Prop} [∀ i j, Decidable (C i j)] {g : Int → Int → D} {a b : Int} {S : Sto} : intD C g (.int a) (.int b) S = if C a b then .ok (g a b) S else .bad := id rfl
abbrev subD := intD (fun _ _ => True) fun i j => .int (i - j)
/-- // and % as Python has them, by a divisor that is not 0 -/
def fdivI (i j : Int) : Int := if 0 < j then i / j else (-i) / (-j)
def fmodI (i j : Int) : Int := if 0 < j then i % j else -((-i) % (-j))
def DivOk (_ j : Int) : Prop := (0 < j ∧ j.natAbs.log2 < 9000) ∨ (j ≠ 0 ∧ j.natAbs < 1073741824)
instance (i j : Int) : Decidable (DivOk i j) := by unfold DivOk; infer_instance
abbrev fdivD := intD DivOk fun i j => .int (fdivI i j)
abbrev modD := intD (fun _ j => j ≠ 0) fun i j => .int (fmodI i j)
def PowOk (i j : Int) : Prop := 0 ≤ j ∧ (Builtin.Int.intBits i : Int) * j ≤ 2 ^ 27
instance (i j : Int) : Decidable (PowOk i j) := by unfold PowOk; infer_instance
abbrev powD := intD PowOk fun i j => .int (i ^ j.toNat)
abbrev ltD := intD (fun _ _ => True) fun i j => .bl (decide (i < j))
abbrev leD := intD (fun _ _ => True) fun i j => .bl (decide (i ≤ j))
abbrev gtD := intD (fun _ _ => True) fun i j => .bl (decide (j < i))
abbrev geD := intD (fun _ _ => True) fun i j => .bl (decide (j ≤ i))
abbrev bitAndD := intD (fun _ _ => True) fun i j => .int (Builtin.bitAnd i j)
abbrev shrD := intD (fun _ j => 0 ≤ j) fun i j => .int (i / 2 ^ j.toNat)
theorem fdivI_eq (i j : Int) (h : j ≠ 0) : i.fdiv j = fdivI i j := by
  unfold fdivI
  by_cases h0 : 0 < j
  · rw [if_pos h0, Int.fdiv_eq_ediv_of_nonneg i (by omega)]
  · rw [if_neg h0]
    have e : i.fdiv j = (-i).fdiv (-j) := by rw [Int.neg_fdiv_neg]
    rw [e, Int.fdiv_eq_ediv_of_nonneg _ (by omega)]
theorem fmodI_eq (i j : Int) (h : j ≠ 0) : i.fmod j = fmodI i j := by
  unfold fmodI
  by_cases h0 : 0 < j
  · rw [if_pos h0, Int.fmod_eq_emod_of_nonneg i (by omega)]
  · rw [if_neg h0]
    have e1 : i.fmod j = i - j * i.fdiv j := Int.fmod_def i j
    have e2 : i.fdiv j = (-i) / (-j) := by
      have := fdivI_eq i j h
      unfold fdivI at this
      rw [if_neg h0] at this
      exact this
    have e3 : (-i) % (-j) = -i - (-j) * ((-i) / (-j)) := Int.emod_def _ _
    rw [e1, e2, e3, Int.neg_mul]
    omega
section
variable {cl : Str → Addr} {W : WX} {X : Cx}
theorem ok_intD {C : Int → Int → Prop} [∀ i j, Decidable (C i j)] {g : Int → Int → D} {r : R2} {gv : Int → Int → V} (hg : ∀ am H i j, VR X.K am H (g i j) (gv i j)) (hr : ∀ i j H Q, C i j → Q (gv i j) H → r (.int i) (.int j) H Q) : Ok2 X.K cl r (intD C g) := by
  intro W σ am S H d e v u Q rs h1 h2 p
  cases h1 with
  | int i =>
    cases h2 with
    | int j =>
      rw [intD_int] at p
      by_cases hc : C i j
      · rw [if_pos hc] at p
        exact hr i j H Q hc (p am _ H .refl rs (hg am H i j))
      · rw [if_neg hc] at p
        exact p.elim
    | _ => exact p.elim
  | _ => exact p.elim
theorem ok_add : Ok2 X.K cl (fun x y H Q => (∃ i j, x = .int i ∧ y = .int j ∧ Q (.int (i + j)) H) ∨ (∃ i j, x = .str i ∧ y = .str j ∧ i.length + j.length ≤ sizeLine ∧ Q (.str (i ++ j)) H) ∨ rCatF X.K x y H Q ∨ rCat x y H Q) addD := by
  intro W σ am S H d e v u Q rs h1 h2 p
  have cat : Post X.K cl W σ (VR X.K) am H (catL (lvOf S d) (lvOf S e) S) Q → rCat v u H Q := fun p => by
    cases e1 : lvOf S d with
    | none => rw [e1] at p; exact p.elim
    | some xs =>
      cases e2 : lvOf S e with
      | none => rw [e1, e2] at p; exact p.elim
      | some ys =>
        rw [e1, e2] at p
        obtain ⟨a, vs, ev, r1, hs⟩ := lvOf_ok rs h1 e1
        obtain ⟨b, us, eu, r2, hs2⟩ := lvOf_ok rs h2 e2
        unfold catL at p
        simp only at p
        by_cases hz : xs.length + ys.length ≤ sizeLine
        · rw [if_pos hz] at p
          exact ⟨a, b, vs, us, ev, eu, r1, r2, by rw [← hs.length, ← hs2.length]; exact hz, fun q hq => p am _ _ (Grow.upd hq) (rs.upd hq) (VR.lstNew rs (hs.append hs2) hq)⟩
        · rw [if_neg hz] at p
          exact p.elim
  cases h1 with
  | int i =>
    cases h2 with
    | int j => exact .inl ⟨i, j, rfl, rfl, p am _ H .refl rs (.int _)⟩
    | _ => exact p.elim
  | str x =>
    cases h2 with
    | str y =>
      simp only [addD] at p
      by_cases hz : x.length + y.length ≤ sizeLine
      · rw [if_pos hz] at p
        exact .inr (.inl ⟨x, y, rfl, rfl, hz, p am _ H .refl rs (.str _)⟩)
      · rw [if_neg hz] at p
        exact p.elim
    | _ => exact p.elim
  | @tup a1 vs1 ds1 t1 hs1 =>
    cases h2 with
    | @tup a2 vs2 ds2 t2 hs2 =>
      simp only [addD] at p
      by_cases hz : ds1.length + ds2.length ≤ sizeLine
      · rw [if_pos hz] at p
        refine .inr (.inr (.inl ⟨a1, a2, vs1, vs2, rfl, rfl, t1.seq, t2.seq, by rw [← hs1.length, ← hs2.length]; exact hz, fun e1 => ?_, fun _ e2 => ?_, fun _ _ q ob hq hd => ?_⟩))
        · have e3 := hs1.nil_iff.mp e1
          subst e3
          exact p am _ H .refl rs (.tup t2 hs2)
        · have e3 := hs2.nil_iff.mp e2
          subst e3
          rw [List.append_nil] at p
          exact p am _ H .refl rs (.tup t1 hs1)
        · exact p am _ _ (Grow.upd hq) (rs.upd hq) (VR.tupNew rs (hs1.append hs2) hq hd)
      · rw [if_neg hz] at p
        exact p.elim
    | _ => exact p.elim
  | lst _ _ _ => exact .inr (.inr (.inr (cat (by cases h2 <;> exact p))))
  | ref _ => exact .inr (.inr (.inr (cat (by cases h2 <;> exact p))))
  | _ => cases h2 <;> exact p.elim
theorem op_addD : OpR X (binaryOp .Add) (fun x y H Q => (∃ i j, x = .int i ∧ y = .int j ∧ Q (.int (i + j)) H) ∨ (∃ i j, x = .str i ∧ y = .str j ∧ i.length + j.length ≤ sizeLine ∧ Q (.str (i ++ j)) H) ∨ rCatF X.K x y H Q ∨ rCat x y H Q) :=
  OpR.or (by exact op_add) (OpR.or op_add_str (OpR.or op_catF op_cat))
end
end Pu
set_option Elab.async false
set_option linter.all false
set_option maxRecDepth 100000
namespace Pu
open PySem PySem.Spec PyProof.Rows L2
section
variable {cl : Str → Addr} {W : WX} {X : Cx} {a b c : Expr} {f g h : Ev D} {pos : Pos}
theorem qe_add (ha : QE cl W X a f) (hb : QE cl W X b g) : QE cl W X (.BinOp a .Add b pos) (e2 addD f g) := qe_bin op_addD ok_add ha hb
theorem qe_sub (ha : QE cl W X a f) (hb : QE cl W X b g) : QE cl W X (.BinOp a .Sub b pos) (e2 subD f g) :=
  qe_bin op_sub (ok_intD (gv := fun i j => .int (i - j)) (fun _ _ _ _ => .int _) fun i j H Q _ q => ⟨i, j, rfl, rfl, q⟩) ha hb
/-- * -/
def repL (x : Option (List D)) (k : Int) (S : Sto) : Res D := match x with
  | some xs => if -(2 ^ 63) ≤ k ∧ k < 2 ^ 63 ∧ xs.length * k.toNat ≤ sizeLine then .ok (.lst (List.replicate k.toNat xs).flatten) S else .bad
  | none => .bad
def mulD (d e : D) (S : Sto) : Res D := match d, e with
  | .int a, .int b => if FitMul a b then .ok (.int (a * b)) S else .bad
  | x, .int k => repL (lvOf S x) k S
  | _, _ => .bad
def rMulA : R2 := fun x y H Q => rI CMul (fun i j => .int (i * j)) x y H Q ∨ rI CMulX (fun i j => .int (i * j)) x y H Q ∨ rRep x y H Q
theorem op_mulA : OpR X (binaryOp .Mult) rMulA := OpR.or op_mul (OpR.or op_mulX op_rep)
theorem VRs.replicate {K : PySem.W.Frag} {am : AM} {H : Hp} {ds : List D} {vs : List V} (h : VRs K am H ds vs) : ∀ n, VRs K am H (List.replicate n ds).flatten (List.replicate n vs).flatten
  | 0 => .nil
  | n + 1 => by
    rw [List.replicate_succ, List.replicate_succ, List.flatten_cons, List.flatten_cons]
    exact h.append (VRs.replicate h n)
theorem ok_mul : Ok2 X.K cl rMulA mulD := by
  intro W σ am S H d e v u Q rs h1 h2 p
  have rep : ∀ k, u = .int k → Post X.K cl W σ (VR X.K) am H (repL (lvOf S d) k S) Q → rMulA v u H Q := fun k hu p => by
    cases e1 : lvOf S d with
    | none => rw [e1] at p; exact p.elim
    | some xs =>
      rw [e1] at p
      obtain ⟨a, vs, ev, r1, hs⟩ := lvOf_ok rs h1 e1
      unfold repL at p
      simp only at p
      by_cases hz : -(2 ^ 63) ≤ k ∧ k < 2 ^ 63 ∧ xs.length * k.toNat ≤ sizeLine
      · rw [if_pos hz] at p
        exact .inr (.inr ⟨a, k, vs, ev, hu, r1, hz.1, hz.2.1, by rw [← hs.length]; exact hz.2.2, fun q hq => p am _ _ (Grow.upd hq) (rs.upd hq) (VR.lstNew rs (hs.replicate _) hq)⟩)
      · rw [if_neg hz] at p
        exact p.elim
  cases h2 with
  | int j =>
    cases h1 with
    | int i =>
      simp only [mulD] at p
      by_cases hz : FitMul i j
      · rw [if_pos hz] at p
        have q := p am (.int (i * j)) H .refl rs (.int _)
        rcases hz with hz | hz | hz
        · exact .inl ⟨i, j, rfl, rfl, .inl hz, q⟩
        · exact .inl ⟨i, j, rfl, rfl, .inr hz, q⟩
        · exact .inr (.inl ⟨i, j, rfl, rfl, hz, q⟩)
      · rw [if_neg hz] at p
        exact p.elim
    | _ => exact rep j rfl p
  | _ => cases h1 <;> exact p.elim
theorem qe_mul (ha : QE cl W X a f) (hb : QE cl W X b g) : QE cl W X (.BinOp a .Mult b pos) (e2 mulD f g) := qe_bin op_mulA ok_mul ha hb
theorem op_fdivA : OpR X (binaryOp .FloorDiv) (fun x y H Q => rI CDivW (fun i j => .int (i / j)) x y H Q ∨ rI CDivN (fun i j => .int (i.fdiv j)) x y H Q) := OpR.or op_fdivW op_fdivN
theorem qe_fdiv (ha : QE cl W X a f) (hb : QE cl W X b g) : QE cl W X (.BinOp a .FloorDiv b pos) (e2 fdivD f g) :=
  qe_bin op_fdivA (ok_intD (gv := fun i j => .int (fdivI i j)) (fun _ _ _ _ => .int _) fun i j H Q hc q => by
    rcases hc with hc | hc
    · refine .inl ⟨i, j, rfl, rfl, hc, ?_⟩
      have e : fdivI i j = i / j := if_pos hc.1
      have q' : Q (.int (fdivI i j)) H := q
      rw [e] at q'
      exact q'
    · refine .inr ⟨i, j, rfl, rfl, hc, ?_⟩
      have q' : Q (.int (fdivI i j)) H := q
      rw [← fdivI_eq i j hc.1] at q'
      exact q') ha hb
theorem qe_mod (ha : QE cl W X a f) (hb : QE cl W X b g) : QE cl W X (.BinOp a .Mod b pos) (e2 modD f g) :=
  qe_bin op_modN (ok_intD (gv := fun i j => .int (fmodI i j)) (fun _ _ _ _ => .int _) fun i j H Q hc q => ⟨i, j, rfl, rfl, hc, by
    have q' : Q (.int (fmodI i j)) H := q
    rw [← fmodI_eq i j hc] at q'
    exact q'⟩) ha hb
theorem op_powA : OpR X (binaryOp .Pow) (rI PowOk fun i j => .int (i ^ j.toNat)) := opI fun _ _ _ _ _ _ _ hc q => pow_int hc.1 hc.2 q
theorem qe_pow (ha : QE cl W X a f) (hb : QE cl W X b g) : QE cl W X (.BinOp a .Pow b pos) (e2 powD f g) :=
  qe_bin op_powA (ok_intD (gv := fun i j => .int (i ^ j.toNat)) (fun _ _ _ _ => .int _) fun i j H Q hc q => ⟨i, j, rfl, rfl, hc, q⟩) ha hb
theorem qe_band (ha : QE cl W X a f) (hb : QE cl W X b g) : QE cl W X (.BinOp a .BitAnd b pos) (e2 bitAndD f g) :=
  qe_bin op_and (ok_intD (gv := fun i j => .int (Builtin.bitAnd i j)) (fun _ _ _ _ => .int _) fun i j H Q hc q => ⟨i, j, rfl, rfl, q⟩) ha hb
theorem qe_shr (ha : QE cl W X a f) (hb : QE cl W X b g) : QE cl W X (.BinOp a .RShift b pos) (e2 shrD f g) :=
  qe_bin op_shr (ok_intD (gv := fun i j => .int (i / 2 ^ j.toNat)) (fun _ _ _ _ => .int _) fun i j H Q hc q => ⟨i, j, rfl, rfl, hc, q⟩) ha hb
def negD (d : D) (S : Sto) : Res D := match d with
  | .int i => .ok (.int (-i)) S
  | _ => .bad
theorem qe_neg (ha : QE cl W X a f) : QE cl W X (.UnaryOp .USub a pos) (e1 negD f) := qe_un un_neg (fun W σ am S H d v Q rs h1 p => by
  cases h1 with
  | int i => exact ⟨i, rfl, p am _ H .refl rs (.int _)⟩
  | _ => exact p.elim) ha

theorem ok_ltD : Ok2 X.K cl (rI0 fun i j => .bl (decide (i < j))) ltD := ok_intD (gv := fun i j => .bl (decide (i < j))) (fun _ _ _ _ => .bl _) fun i j H Q _ q => ⟨i, j, rfl, rfl, q⟩
theorem ok_leD : Ok2 X.K cl (rI0 fun i j => .bl (decide (i ≤ j))) leD := ok_intD (gv := fun i j => .bl (decide (i ≤ j))) (fun _ _ _ _ => .bl _) fun i j H Q _ q => ⟨i, j, rfl, rfl, q⟩
theorem ok_gtD : Ok2 X.K cl (rI0 fun i j => .bl (decide (j < i))) gtD := ok_intD (gv := fun i j => .bl (decide (j < i))) (fun _ _ _ _ => .bl _) fun i j H Q _ q => ⟨i, j, rfl, rfl, q⟩
theorem ok_geD : Ok2 X.K cl (rI0 fun i j => .bl (decide (j ≤ i))) geD := ok_intD (gv := fun i j => .bl (decide (j ≤ i))) (fun _ _ _ _ => .bl _) fun i j H Q _ q => ⟨i, j, rfl, rfl, q⟩
theorem int_opt {C : Int → Int → Prop} [∀ i j, Decidable (C i j)] {p : Int → Int → Bool} (d e : D) (S : Sto) : ∃ o : Option Bool, intD C (fun i j => .bl (p i j)) d e S = (opt o S).bind fun b S => .ok (.bl b) S := by
  cases d with
  | int i =>
    cases e with
    | int j =>
      rw [intD_int]
      by_cases hc : C i j
      · exact ⟨some (p i j), by rw [if_pos hc]; rfl⟩
      · exact ⟨none, by rw [if_neg hc]; rfl⟩
    | _ => exact ⟨none, rfl⟩
  | _ => exact ⟨none, rfl⟩
theorem okb_lt : Ok2b X.K cl (rI0 fun i j => .bl (decide (i < j))) ltD := ⟨ok_ltD, fun d e S => int_opt d e S⟩
theorem okb_le : Ok2b X.K cl (rI0 fun i j => .bl (decide (i ≤ j))) leD := ⟨ok_leD, fun d e S => int_opt d e S⟩
theorem qe_lt (ha : QE cl W X a f) (hb : QE cl W X b g) : QE cl W X (.Compare a [.Lt] [b] pos) (e2 ltD f g) := qe_cmp op_lt ok_ltD ha hb (nomark _)
theorem qe_le (ha : QE cl W X a f) (hb : QE cl W X b g) : QE cl W X (.Compare a [.LtE] [b] pos) (e2 leD f g) := qe_cmp op_le ok_leD ha hb (nomark _)
theorem qe_gt (ha : QE cl W X a f) (hb : QE cl W X b g) : QE cl W X (.Compare a [.Gt] [b] pos) (e2 gtD f g) := qe_cmp op_gt ok_gtD ha hb (nomark _)
theorem qe_ge (ha : QE cl W X a f) (hb : QE cl W X b g) : QE cl W X (.Compare a [.GtE] [b] pos) (e2 geD f g) := qe_cmp op_ge ok_geD ha hb (nomark _)
theorem qt_lt (ha : QE cl W X a f) (hb : QE cl W X b g) : QT cl W X (.Compare a [.Lt] [b] pos) (eTB (e2 ltD f g)) := qt_cmp op_lt ok_ltD ha hb (nomark _)
theorem qt_le (ha : QE cl W X a f) (hb : QE cl W X b g) : QT cl W X (.Compare a [.LtE] [b] pos) (eTB (e2 leD f g)) := qt_cmp op_le ok_leD ha hb (nomark _)
theorem qt_gt (ha : QE cl W X a f) (hb : QE cl W X b g) : QT cl W X (.Compare a [.Gt] [b] pos) (eTB (e2 gtD f g)) := qt_cmp op_gt ok_gtD ha hb (nomark _)
theorem qt_ge (ha : QE cl W X a f) (hb : QE cl W X b g) : QT cl W X (.Compare a [.GtE] [b] pos) (eTB (e2 geD f g)) := qt_cmp op_ge ok_geD ha hb (nomark _)
theorem qe_lele (ha : QE cl W X a f) (hb : QE cl W X b g) (hc : QE cl W X c h) (hm : lastMarks [.LtE, .LtE] [b, c] = false := by with_unfolding_all rfl) : QE cl W X (.Compare a [.LtE, .LtE] [b, c] pos) (eCh leD leD f g h) := qe_chain op_le okb_le op_le ok_leD ha hb hc hm
theorem qe_lelt (ha : QE cl W X a f) (hb : QE cl W X b g) (hc : QE cl W X c h) (hm : lastMarks [.LtE, .Lt] [b, c] = false := by with_unfolding_all rfl) : QE cl W X (.Compare a [.LtE, .Lt] [b, c] pos) (eCh leD ltD f g h) := qe_chain op_le okb_le op_lt ok_ltD ha hb hc hm
theorem qt_lele (ha : QE cl W X a f) (hb : QE cl W X b g) (hc : QE cl W X c h) (hm : lastMarks [.LtE, .LtE] [b, c] = false := by with_unfolding_all rfl) : QT cl W X (.Compare a [.LtE, .LtE] [b, c] pos) (eTB (eCh leD leD f g h)) := qt_chain op_le okb_le op_le ok_leD ha hb hc hm
theorem qt_lelt (ha : QE cl W X a f) (hb : QE cl W X b g) (hc : QE cl W X c h) (hm : lastMarks [.LtE, .Lt] [b, c] = false := by with_unfolding_all rfl) : QT cl W X (.Compare a [.LtE, .Lt] [b, c] pos) (eTB (eCh leD ltD f g h)) := qt_chain op_le okb_le op_lt ok_ltD ha hb hc hm
end
mutual
def D.py : D → PyData
  | .non => .none
  | .bl b => .bool b
  | .int i => .int i
  | .str x => .str x
  | .tup xs => .tuple (pys xs)
  | .tpi xs => .tuple (pys xs)
  | .lst xs => .list (pys xs)
  | .fls xs => .list (pys xs)
  | .dct _ => .dict []
  | .ref _ => .dict []
def pys : List D → List PyData
  | [] => []
  | x :: xs => x.py :: pys xs
end
theorem pys_eq : ∀ xs : List D, pys xs = xs.map D.py
  | [] => rfl
  | x :: xs => by
    show x.py :: pys xs = x.py :: xs.map D.py
    rw [pys_eq xs]
/-- data at the top: a list of the store is read -/
def pyOf (S : Sto) (d : D) : PyData := match d with
  | .ref k => match S[k]? with
    | some (.lst xs) => .list (pys xs)
    | _ => .dict []
  | d => d.py
section
variable {K : PySem.W.Frag} {cl : Str → Addr} {am : AM} {H : Hp} {S : Sto}
mutual
theorem VR.dp : ∀ {d : D} {v : V}, VR K am H d v → d.py.canLay0 = true → Dp K H v d.py
  | _, _, .non, _ => .non
  | _, _, .bl b, _ => .bl b
  | _, _, .int i, _ => .int i
  | _, _, .str x, _ => .str x
  | _, _, .tup h hs, q => .tup h.seq (VRs.dp hs (by simpa [D.py, PyData.canLay0] using q))
  | _, _, .tpi h hs, q => .tup (.inl h.1) (VRs.dp hs (by simpa [D.py, PyData.canLay0] using q))
  | _, _, .lst h n hs, q => .lst (.inl (.inl h)) (VRs.dp hs (by simpa [D.py, PyData.canLay0] using q))
  | _, _, .fls h hs, q => .lst h.seq (VRs.dp hs (by simpa [D.py, PyData.canLay0] using q))
  | _, _, .dct _ _ _, q => absurd q (by simp [D.py, PyData.canLay0])
  | _, _, .ref _, q => absurd q (by simp [D.py, PyData.canLay0])
theorem VRs.dp : ∀ {ds : List D} {vs : List V}, VRs K am H ds vs → PyData.canLayAll0 (pys ds) = true → DpAll K H vs (pys ds)
  | _, _, .nil, _ => .nil
  | _, _, .cons h t, q => by
    rename_i d v ds vs
    have q' : d.py.canLay0 = true ∧ PyData.canLayAll0 (pys ds) = true := by simpa [pys, PyData.canLayAll0] using q
    exact .cons (VR.dp h q'.1) (VRs.dp t q'.2)
end
theorem dpOf (r : RelS K cl am S H) {d : D} {v : V} (h : VR K am H d v) (q : (pyOf S d).canLay0 = true) : Dp K H v (pyOf S d) := by
  cases d with
  | ref k =>
    unfold pyOf at q ⊢
    simp only at q ⊢
    cases e : S[k]? with
    | none => rw [e] at q; exact absurd q (by simp [PyData.canLay0])
    | some o =>
      rw [e] at q
      cases o with
      | lst xs =>
        cases h with
        | ref h1 =>
          obtain ⟨vs, h2, h3⟩ := r.ob k _ _ e h1
          exact .lst (.inl (.inl h2)) (h3.dp (by simpa [PyData.canLay0] using q))
      | dct _ => exact absurd q (by simp [PyData.canLay0])
      | ins _ _ => exact absurd q (by simp [PyData.canLay0])
  | _ => exact h.dp q
end
def eqB (S : Sto) (d e : D) : Bool := PyData.eqv (pyOf S d) (pyOf S e)
def shp (S : Sto) (d : D) : Bool := SeqAt.shaped (pyOf S d)
def eqD (neg : Bool) (d e : D) (S : Sto) : Res D := if shp S d = true ∧ shp S e = true then .ok (.bl (if neg = true then !eqB S d e else eqB S d e)) S else .bad
section
variable {cl : Str → Addr} {W : WX} {X : Cx} {a b c : Expr} {f g h : Ev D} {pos : Pos}
theorem ok_eq : Ok2 X.K cl (rEqD X.K) (eqD false) := fun W σ am S H d e v u Q rs h1 h2 p => by
  unfold eqD at p
  by_cases hc : shp S d = true ∧ shp S e = true
  · rw [if_pos hc] at p
    exact ⟨_, _, dpOf rs h1 (SeqAt.canLay_of_shaped hc.1), dpOf rs h2 (SeqAt.canLay_of_shaped hc.2), hc.1, hc.2, p am _ H .refl rs (.bl _)⟩
  · rw [if_neg hc] at p
    exact p.elim
theorem ok_ne : Ok2 X.K cl (rNeD X.K) (eqD true) := fun W σ am S H d e v u Q rs h1 h2 p => by
  unfold eqD at p
  by_cases hc : shp S d = true ∧ shp S e = true
  · rw [if_pos hc] at p
    exact ⟨_, _, dpOf rs h1 (SeqAt.canLay_of_shaped hc.1), dpOf rs h2 (SeqAt.canLay_of_shaped hc.2), hc.1, hc.2, p am _ H .refl rs (.bl _)⟩
  · rw [if_neg hc] at p
    exact p.elim
theorem qe_eq {k : Nat} (hr : Room k X.A) (ha : QE cl W X a f) (hb : QE cl W X b g) : QE cl W X (.Compare a [.Eq] [b] pos) (e2 (eqD false) f g) := qe_cmp (op_eqD hr.units) ok_eq ha hb (nomark _)
theorem qe_ne {k : Nat} (hr : Room k X.A) (ha : QE cl W X a f) (hb : QE cl W X b g) : QE cl W X (.Compare a [.NotEq] [b] pos) (e2 (eqD true) f g) := qe_cmp (op_neD hr.units) ok_ne ha hb (nomark _)
theorem qt_eq {k : Nat} (hr : Room k X.A) (ha : QE cl W X a f) (hb : QE cl W X b g) : QT cl W X (.Compare a [.Eq] [b] pos) (eTB (e2 (eqD false) f g)) := qt_cmp (op_eqD hr.units) ok_eq ha hb (nomark _)
theorem qt_ne {k : Nat} (hr : Room k X.A) (ha : QE cl W X a f) (hb : QE cl W X b g) : QT cl W X (.Compare a [.NotEq] [b] pos) (eTB (e2 (eqD true) f g)) := qt_cmp (op_neD hr.units) ok_ne ha hb (nomark _)
/-- is None -/
def D.isN : D → Bool
  | .non => true
  | _ => false
def isND (neg : Bool) (d : D) (S : Sto) : Res D := .ok (.bl (if neg = true then !d.isN else d.isN)) S
theorem isN_eq {K : PySem.W.Frag} {am : AM} {H : Hp} {d : D} {v : V} (h : VR K am H d v) : decide (v = .non) = d.isN := by
  cases h <;> rfl
theorem imp_isN : ∀ σ H Q, TD X.K cl W (VR X.K) (e1 (isND false) f) σ H Q → tIsN (TD X.K cl W (VR X.K) f) σ H Q := fun σ H Q ⟨am, e, S, rs, re, p⟩ =>
  ⟨am, e, S, rs, re, (Post.step p).imp fun x H1 ⟨am1, S1, d1, _, g1, rs1, rv1, p1⟩ => by
    rw [isN_eq rv1]
    exact p1 am1 _ H1 .refl rs1 (.bl _)⟩
theorem imp_notN : ∀ σ H Q, TD X.K cl W (VR X.K) (e1 (isND true) f) σ H Q → tNotN (TD X.K cl W (VR X.K) f) σ H Q := fun σ H Q ⟨am, e, S, rs, re, p⟩ =>
  ⟨am, e, S, rs, re, (Post.step p).imp fun x H1 ⟨am1, S1, d1, _, g1, rs1, rv1, p1⟩ => by
    rw [isN_eq rv1]
    exact p1 am1 _ H1 .refl rs1 (.bl _)⟩
theorem qe_isN {j pos'} (ha : QE cl W X a f) : QE cl W X (.Compare a [.Is] [.Constant .none j pos'] pos) (e1 (isND false) f) := (pe_cmp (pc_isN ha)).imp imp_isN
theorem qe_notN {j pos'} (ha : QE cl W X a f) : QE cl W X (.Compare a [.IsNot] [.Constant .none j pos'] pos) (e1 (isND true) f) := (pe_cmp (pc_notN ha)).imp imp_notN
theorem qt_isN {j pos'} (ha : QE cl W X a f) : QT cl W X (.Compare a [.Is] [.Constant .none j pos'] pos) (eTB (e1 (isND false) f)) := (pt_cmp (pc_isN ha)).imp fun σ H Q t => imp_isN _ _ _ (imp_TB _ _ _ t)
theorem qt_notN {j pos'} (ha : QE cl W X a f) : QT cl W X (.Compare a [.IsNot] [.Constant .none j pos'] pos) (eTB (e1 (isND true) f)) := (pt_cmp (pc_notN ha)).imp fun σ H Q t => imp_notN _ _ _ (imp_TB _ _ _ t)
end

def tAndD (f g : Ev Bool) : Ev Bool := fun e S => (f e S).bind fun b S => if b = true then g e S else .ok false S
def tOrD (f g : Ev Bool) : Ev Bool := fun e S => (f e S).bind fun b S => if b = true then .ok true S else g e S
def tNotD (f : Ev Bool) : Ev Bool := fun e S => (f e S).bind fun b S => .ok (!b) S
def eAndD (f g : Ev D) : Ev D := fun e S => (f e S).bind fun d S => (toB d S).bind fun b S => if b = true then g e S else .ok (.bl false) S
def eOrD (f g : Ev D) : Ev D := fun e S => (f e S).bind fun d S => (toB d S).bind fun b S => if b = true then .ok (.bl true) S else g e S
def eNotD (f : Ev D) : Ev D := fun e S => (f e S).bind fun d S => (toB d S).bind fun b S => .ok (.bl (!b)) S
def eIf (t : Ev Bool) (f g : Ev D) : Ev D := fun e S => (t e S).bind fun b S => if b = true then f e S else g e S
section
variable {cl : Str → Addr} {W : WX} {X : Cx} {a b c : Expr} {rest : List Expr} {f g : Ev D} {s t : Ev Bool} {pos : Pos}
theorem Post.same {K : PySem.W.Frag} {σ : L2.St} {α β : Type} {R : AM → Hp → α → β → Prop} {am am' : AM} {H H' : Hp} {r : Res α} {Q : β → Hp → Prop} (g : Grow am am' H H') (p : Post K cl W σ R am H r Q) : Post K cl W σ R am' H' r Q := by
  cases r with
  | ok a S => exact fun am2 b H2 g2 => p am2 b H2 (g.trans g2)
  | exc c S => exact fun am2 H2 g2 => p am2 H2 (g.trans g2)
  | bad => exact p
theorem qw_and1 (ha : QT cl W X a s) : QW cl W X (.BoolOp .And [a] pos) s := pw_and1 ha
theorem qw_or1 (ha : QT cl W X a s) : QW cl W X (.BoolOp .Or [a] pos) s := pw_or1 ha
theorem qw_and (ha : QT cl W X a s) (hb : QW cl W X (.BoolOp .And (b :: rest) pos) t) : QW cl W X (.BoolOp .And (a :: b :: rest) pos) (tAndD s t) := (pw_and ha hb).imp fun σ H Q ⟨am, e, S, rs, re, p⟩ =>
  ⟨am, e, S, rs, re, (Post.step p).imp fun k H1 ⟨am1, S1, k', _, g1, rs1, rk, p1⟩ => by
    have rk : k' = k := rk
    subst rk
    cases k' with
    | true => exact ⟨am1, e, S1, rs1, re.mono g1, p1⟩
    | false => exact p1 am1 _ H1 .refl rs1 rfl⟩
theorem qw_or (ha : QT cl W X a s) (hb : QW cl W X (.BoolOp .Or (b :: rest) pos) t) : QW cl W X (.BoolOp .Or (a :: b :: rest) pos) (tOrD s t) := (pw_or ha hb).imp fun σ H Q ⟨am, e, S, rs, re, p⟩ =>
  ⟨am, e, S, rs, re, (Post.step p).imp fun k H1 ⟨am1, S1, k', _, g1, rs1, rk, p1⟩ => by
    have rk : k' = k := rk
    subst rk
    cases k' with
    | false => exact ⟨am1, e, S1, rs1, re.mono g1, p1⟩
    | true => exact p1 am1 _ H1 .refl rs1 rfl⟩
theorem qt_not (ha : QT cl W X a s) : QT cl W X (.UnaryOp .Not a pos) (tNotD s) := (pt_not ha).imp fun σ H Q ⟨am, e, S, rs, re, p⟩ =>
  ⟨am, e, S, rs, re, (Post.step p).imp fun k H1 ⟨am1, S1, k', _, g1, rs1, rk, p1⟩ => by
    have rk : k' = k := rk
    subst rk
    exact p1 am1 _ H1 .refl rs1 rfl⟩
theorem qe_one {op} (ha : QE cl W X a f) : QE cl W X (.BoolOp op [a] pos) f := pe_one ha
theorem step_b {σ : L2.St} {α : Type} {R : AM → Hp → D → V → Prop} {am : AM} {H : Hp} {S : Sto} {k : Bool → Sto → Res D} {d : D} {x : V} {Q : VK} (rv : VR X.K am H d x) (p : Post X.K cl W σ R am H ((toB d S).bind k) Q) : ∃ b, d = .bl b ∧ x = .bl b ∧ Post X.K cl W σ R am H (k b S) Q := by
  cases rv with
  | bl b => exact ⟨b, rfl, rfl, p⟩
  | _ => exact p.elim
theorem qe_and (ha : QE cl W X a f) (hb : QE cl W X (.BoolOp .And (b :: rest) pos) g) : QE cl W X (.BoolOp .And (a :: b :: rest) pos) (eAndD f g) := (pe_and ha hb).imp fun σ H Q ⟨am, e, S, rs, re, p⟩ =>
  ⟨am, e, S, rs, re, (Post.step p).imp fun x H1 ⟨am1, S1, d, _, g1, rs1, rv, p1⟩ => by
    obtain ⟨k, _, ex, p2⟩ := step_b (α := D) rv p1
    refine ⟨k, ex, ?_⟩
    cases k with
    | true => exact ⟨am1, e, S1, rs1, re.mono g1, p2⟩
    | false => exact p2 am1 _ H1 .refl rs1 (.bl _)⟩
theorem qe_or (ha : QE cl W X a f) (hb : QE cl W X (.BoolOp .Or (b :: rest) pos) g) : QE cl W X (.BoolOp .Or (a :: b :: rest) pos) (eOrD f g) := (pe_or ha hb).imp fun σ H Q ⟨am, e, S, rs, re, p⟩ =>
  ⟨am, e, S, rs, re, (Post.step p).imp fun x H1 ⟨am1, S1, d, _, g1, rs1, rv, p1⟩ => by
    obtain ⟨k, _, ex, p2⟩ := step_b (α := D) rv p1
    refine ⟨k, ex, ?_⟩
    cases k with
    | false => exact ⟨am1, e, S1, rs1, re.mono g1, p2⟩
    | true => exact p2 am1 _ H1 .refl rs1 (.bl _)⟩
theorem qe_not (ha : QE cl W X a f) : QE cl W X (.UnaryOp .Not a pos) (eNotD f) := (pe_not ha).imp fun σ H Q ⟨am, e, S, rs, re, p⟩ =>
  ⟨am, e, S, rs, re, (Post.step p).imp fun x H1 ⟨am1, S1, d, _, g1, rs1, rv, p1⟩ => by
    obtain ⟨k, _, ex, p2⟩ := step_b (α := D) rv p1
    exact ⟨k, ex, p2 am1 _ H1 .refl rs1 (.bl _)⟩⟩
theorem qe_if (hc : QT cl W X c s) (ha : QE cl W X a f) (hb : QE cl W X b g) : QE cl W X (.IfExp c a b pos) (eIf s f g) := (pe_ifExp hc ha hb).imp fun σ H Q ⟨am, e, S, rs, re, p⟩ =>
  ⟨am, e, S, rs, re, (Post.step p).imp fun k H1 ⟨am1, S1, k', _, g1, rs1, rk, p1⟩ => by
    have rk : k' = k := rk
    subst rk
    cases k' with
    | true => exact ⟨am1, e, S1, rs1, re.mono g1, p1⟩
    | false => exact ⟨am1, e, S1, rs1, re.mono g1, p1⟩⟩
/-- a value's truth -/
def truD (d : D) (S : Sto) : Res Bool := match d with
  | .non => .ok false S
  | .bl b => .ok b S
  | .int i => .ok (i != 0) S
  | .str x => if x.length ≤ sizeLine then .ok ((x.length : Int) != 0) S else .bad
  | .tup xs => .ok (!xs.isEmpty) S
  | d => match lsOf S d with
    | some xs => .ok (!xs.isEmpty) S
    | none => .bad
def eTr (f : Ev D) : Ev Bool := fun e S => (f e S).bind truD
theorem VRs.isEmpty {K : PySem.W.Frag} {am : AM} {H : Hp} {ds : List D} {vs : List V} (h : VRs K am H ds vs) : vs.isEmpty = ds.isEmpty := by
  cases h <;> rfl
theorem tru_ok' {am : AM} {S : Sto} {H : Hp} {d : D} {x : V} {σ : L2.St} {Q : Bool → Hp → Prop} (rs : RelS X.K cl am S H) (rv : VR X.K am H d x) (p : Post X.K cl W σ RB am H (truD d S) Q) : ∃ k, TruV X.K x H k ∧ Q k H := by
  have ls : Post X.K cl W σ RB am H (match lsOf S d with | some xs => .ok (!xs.isEmpty) S | none => .bad) Q → ∃ k, TruV X.K x H k ∧ Q k H := fun p => by
    cases e : lsOf S d with
    | none => rw [e] at p; exact p.elim
    | some xs =>
      rw [e] at p
      obtain ⟨a, vs, ev, r1, hs⟩ := lsOf_ok rs rv e
      subst ev
      exact ⟨!xs.isEmpty, .inl ⟨vs, r1, by rw [hs.isEmpty]⟩, p am _ H .refl rs rfl⟩
  cases rv with
  | non => exact ⟨false, rfl, p am _ H .refl rs rfl⟩
  | bl b => exact ⟨b, rfl, p am _ H .refl rs rfl⟩
  | int i => exact ⟨(i != 0), rfl, p am _ H .refl rs rfl⟩
  | str y =>
    simp only [truD] at p
    by_cases hz : y.length ≤ sizeLine
    · rw [if_pos hz] at p
      exact ⟨((y.length : Int) != 0), ⟨hz, rfl⟩, p am _ H .refl rs rfl⟩
    · rw [if_neg hz] at p
      exact p.elim
  | tup h hs => exact ⟨_, .inr (.inl ⟨_, h.seq, rfl⟩), by rw [hs.isEmpty]; exact p am _ H .refl rs rfl⟩
  | lst _ _ _ => exact ls p
  | fls _ _ => exact ls p
  | ref _ => exact ls p
  | dct _ _ _ => exact p.elim
  | tpi _ _ => exact p.elim
theorem qt_val (ha : QE cl W X a f) (he : ∀ whole, isTrue a X.env whole = (do let v ← whole; standAt a.pos; holding [v] (truthy v)) := by intro _; rfl) : QT cl W X a (eTr f) := (pt_truth ha he).imp fun σ H Q ⟨am, e, S, rs, re, p⟩ =>
  ⟨am, e, S, rs, re, (Post.step p).imp fun x H1 ⟨am1, S1, d, _, g1, rs1, rv, p1⟩ => tru_ok' rs1 rv p1⟩
end

def eArgs : List (Ev D) → Ev (List D)
  | [] => fun _ S => .ok [] S
  | f :: fs => fun e S => (f e S).bind fun x S => (eArgs fs e S).bind fun xs S => .ok (x :: xs) S
theorem eArgs_len : ∀ {fs : List (Ev D)} {e : En} {S S' : Sto} {xs : List D}, eArgs fs e S = .ok xs S' → xs.length = fs.length
  | [], _, _, _, _, h => by cases h; rfl
  | f :: fs, e, S, S', xs, h => by
    unfold eArgs at h
    cases e1 : f e S with
    | ok x S1 =>
      rw [e1, Res.bind_ok] at h
      cases e2 : eArgs fs e S1 with
      | ok ys S2 =>
        rw [e2, Res.bind_ok] at h
        cases h
        rw [List.length_cons, List.length_cons, eArgs_len e2]
      | exc c S2 => rw [e2] at h; cases h
      | bad => rw [e2] at h; cases h
    | exc c S1 => rw [e1] at h; cases h
    | bad => rw [e1] at h; cases h
def eTup (fs : List (Ev D)) : Ev D := fun e S => (eArgs fs e S).bind fun xs S => .ok (.tup xs) S
def eLst (fs : List (Ev D)) : Ev D := fun e S => (eArgs fs e S).bind fun xs S => .ok (.lst xs) S
def eCall (op : List D → Sto → Res D) (fs : List (Ev D)) : Ev D := fun e S => (eArgs fs e S).bind op
def OkN (K : PySem.W.Frag) (cl : Str → Addr) (r : List V → Hp → VK → Prop) (op : List D → Sto → Res D) : Prop :=
  ∀ (W : WX) (σ : L2.St) (am : AM) (S : Sto) (H : Hp) (ds : List D) (vs : List V) (Q : VK), RelS K cl am S H → VRs K am H ds vs → Post K cl W σ (VR K) am H (op ds S) Q → r vs H Q
theorem OkN.or {K : PySem.W.Frag} {cl : Str → Addr} {r r' : List V → Hp → VK → Prop} {op op' : List D → Sto → Res D} (h : OkN K cl r op) (h' : OkN K cl r' op') (c : List D → Sto → Bool) : OkN K cl (fun vs H Q => r vs H Q ∨ r' vs H Q) (fun ds S => if c ds S = true then op ds S else op' ds S) :=
  fun W σ am S H ds vs Q rs rv p => by
    by_cases hc : c ds S = true
    · simp only [hc, if_true] at p
      exact .inl (h W σ am S H ds vs Q rs rv p)
    · simp only [hc] at p
      exact .inr (h' W σ am S H ds vs Q rs rv p)
section
variable {cl : Str → Addr} {W : WX} {X : Cx} {a b c : Expr} {es : List Expr} {f g : Ev D} {fs : List (Ev D)} {pos : Pos}
theorem qa_nil : QA cl W X [] (eArgs []) := pa_nil.imp fun σ H Q ⟨am, e, S, rs, re, p⟩ => p am [] H .refl rs .nil
theorem qa_cons (ha : QE cl W X a f) (hr : QA cl W X es (eArgs fs)) (hs : starEach (a :: es) X.env = (false, eval a X.env) :: starEach es X.env := by rfl) : QA cl W X (a :: es) (eArgs (f :: fs)) := (pa_cons ha hr hs).imp fun σ H Q ⟨am, e, S, rs, re, p⟩ =>
  ⟨am, e, S, rs, re, (Post.step p).imp fun x H1 ⟨am1, S1, d, _, g1, rs1, rv, p1⟩ =>
    ⟨am1, e, S1, rs1, re.mono g1, (Post.step p1).imp fun xs H2 ⟨am2, S2, ds, _, g2, rs2, rvs, p2⟩ => p2 am2 _ H2 .refl rs2 (.cons (rv.mono g2) rvs)⟩⟩
theorem qe_tup {x1} (h : QA cl W X es (eArgs fs)) (hn : fs.length ≤ 1000 := by decide) : QE cl W X (.Tuple es x1 pos) (eTup fs) := (pe_tupF h).imp fun σ H Q ⟨am, e, S, rs, re, p⟩ =>
  ⟨am, e, S, rs, re, (Post.step p).imp fun xs H1 ⟨am1, S1, ds, ee, g1, rs1, rvs, p1⟩ =>
    ⟨by rw [← rvs.length, eArgs_len ee]; exact Nat.le_trans hn (by decide), fun q ob hq hd => p1 am1 _ _ (Grow.upd hq) (rs1.upd hq) (VR.tupNew rs1 rvs hq hd)⟩⟩
theorem qe_lst (h : QA cl W X es (eArgs fs)) (hn : fs.length ≤ 1000 := by decide) : QE cl W X (.List es pos) (eLst fs) := (pe_lst h).imp fun σ H Q ⟨am, e, S, rs, re, p⟩ =>
  ⟨am, e, S, rs, re, (Post.step p).imp fun xs H1 ⟨am1, S1, ds, ee, g1, rs1, rvs, p1⟩ =>
    ⟨by rw [← rvs.length, eArgs_len ee]; exact Nat.le_trans hn (by decide), fun q hq => p1 am1 _ _ (Grow.upd hq) (rs1.upd hq) (VR.lstNew rs1 rvs hq)⟩⟩
theorem imp_call {r : List V → Hp → VK → Prop} {op : List D → Sto → Res D} (ok : OkN X.K cl r op) : ∀ σ H Q, TD X.K cl W (VR X.K) (eCall op fs) σ H Q → tCB r (TD X.K cl W (VRs X.K) (eArgs fs)) σ H Q := fun σ H Q ⟨am, e, S, rs, re, p⟩ =>
  ⟨am, e, S, rs, re, (Post.step p).imp fun xs H1 ⟨am1, S1, ds, ee, g1, rs1, rvs, p1⟩ => ok W σ am1 S1 H1 ds xs Q rs1 rvs p1⟩
variable {x : Str} {p : Pos}
theorem qe_callB {id : String} {r : List V → Hp → VK → Prop} {op : List D → Sto → Res D} (hc : CallR X (.builtin id) r) (ok : OkN X.K cl r op) (hg : Gl X x) (hm : X.mg x = none) (hv : bootBuiltins x = some (.builtin id)) (ha : QA cl W X (a :: es) (eArgs fs)) (hn : x ≠ "__name__" := by decide) (hdb : (x == ("__debug__" : Str)) = false := by decide)
    (he : starEach (a :: es) X.env = (false, eval a X.env) :: starEach es X.env := by rfl) (hpl : (backTo pos (starEach es X.env)).any (·.1) = false := by rfl) : QE cl W X (.Call (.Name x p) (a :: es) [] pos) (eCall op fs) :=
  (pe_callB hc hg hm hv ha hn hdb he hpl).imp (imp_call ok)
theorem qe_callT {T : String} {r : List V → Hp → VK → Prop} {op : List D → Sto → Res D} (hc : CallR X (.type T) r) (ok : OkN X.K cl r op) (hg : Gl X x) (hm : X.mg x = none) (hv : bootBuiltins x = some (.type T)) (ha : QA cl W X (a :: es) (eArgs fs)) (hn : x ≠ "__name__" := by decide) (hdb : (x == ("__debug__" : Str)) = false := by decide)
    (he : starEach (a :: es) X.env = (false, eval a X.env) :: starEach es X.env := by rfl) (hpl : (backTo pos (starEach es X.env)).any (·.1) = false := by rfl) : QE cl W X (.Call (.Name x p) (a :: es) [] pos) (eCall op fs) :=
  (pe_callTy hc hg hm hv ha hn hdb he hpl).imp (imp_call ok)
end
/-- the sequence that a value is -/
def sqOf (S : Sto) : D → Option (List D)
  | .tup xs => some xs
  | d => lsOf S d
@[simp] theorem sqOf_tup {S : Sto} {xs : List D} : sqOf S (.tup xs) = some xs := id rfl
@[simp] theorem sqOf_lst {S : Sto} {xs : List D} : sqOf S (.lst xs) = some xs := id rfl
@[simp] theorem sqOf_fls {S : Sto} {xs : List D} : sqOf S (.fls xs) = some xs := id rfl
@[simp] theorem sqOf_ref {S : Sto} {k : Nat} {xs : List D} (h : S[k]? = some (.lst xs)) : sqOf S (.ref k) = some xs := lsOf_ref h
theorem sqOf_ok {K : PySem.W.Frag} {cl : Str → Addr} {am : AM} {H : Hp} {S : Sto} {d : D} {v : V} (r : RelS K cl am S H) (h : VR K am H d v) {xs : List D} (e : sqOf S d = some xs) :
    ∃ a vs, v = .ref a ∧ (SqL K H a vs ∨ SqT K H a vs) ∧ VRs K am H xs vs := by
  cases h with
  | tup h hs =>
    cases e
    exact ⟨_, _, rfl, .inr h.seq, hs⟩
  | lst h1 h2 h3 =>
    obtain ⟨a, vs, ev, r1, hs⟩ := lsOf_ok r (.lst h1 h2 h3) e
    exact ⟨a, vs, ev, .inl r1, hs⟩
  | fls h1 h3 =>
    obtain ⟨a, vs, ev, r1, hs⟩ := lsOf_ok r (.fls h1 h3) e
    exact ⟨a, vs, ev, .inl r1, hs⟩
  | ref h1 =>
    obtain ⟨a, vs, ev, r1, hs⟩ := lsOf_ok r (.ref h1) e
    exact ⟨a, vs, ev, .inl r1, hs⟩
  | _ => cases e
end Pu
set_option Elab.async false
set_option linter.all false
set_option maxRecDepth 100000
namespace Pu
open PySem PySem.Spec PyProof.Rows L2

def PostN (K : PySem.W.Frag) (cl : Str → Addr) (W : WX) (σ : L2.St) (am : AM) (H : Hp) (r : Res DO) (Q : VK) : Prop := match r with
  | .ok o S => ∀ (am' : AM) (a : Addr) (H' : Hp), Grow am am' H H' → RelS K cl am' S H' → H a = none → a ∈ am'.no → a ∉ am'.ad → OR K cl am' H' a o → Q (.ref a) H'
  | .exc c S => ∀ am' H', Grow am am' H H' → RelS K cl am' S H' → W (.ref (cl c)) none σ H'
  | .bad => False
def TDN (K : PySem.W.Frag) (cl : Str → Addr) (W : WX) (f : Ev DO) : TE := fun σ H Q => ∃ am e S, RelS K cl am S H ∧ RelE K am H e σ ∧ PostN K cl W σ am H (f e S) Q
abbrev QN (cl : Str → Addr) (W : WX) (X : Cx) (e : Expr) (f : Ev DO) : Prop := PE X e (TDN X.K cl W f)
def anoD (o : DO) (S : Sto) : Res D := match o with
  | .lst xs => .ok (.lst xs) S
  | .dct xs => .ok (.dct xs) S
  | .ins _ _ => .bad
@[simp] theorem anoD_lst {xs : List D} {S : Sto} : anoD (.lst xs) S = .ok (.lst xs) S := id rfl
@[simp] theorem anoD_dct {xs : List (Key × D)} {S : Sto} : anoD (.dct xs) S = .ok (.dct xs) S := id rfl
/-- .. kept by its data -/
def eAno (f : Ev DO) : Ev D := fun e S => (f e S).bind anoD
/-- .. kept in the store -/
def eNew (f : Ev DO) : Ev D := fun e S => (f e S).bind fun o S => .ok (.ref S.length) (S ++ [o])
section
variable {K : PySem.W.Frag} {cl : Str → Addr} {W : WX} {σ : L2.St} {am am1 : AM} {H H1 : Hp} {S : Sto} {Q : VK} {f : Ev DO}
theorem PostN.step {α β : Type} {R : AM → Hp → α → β → Prop} {r : Res α} {k : α → Sto → Res DO} (p : PostN K cl W σ am H (r.bind k) Q) :
    Post K cl W σ R am H r (fun b H1 => ∃ am1 S1 a, r = .ok a S1 ∧ Grow am am1 H H1 ∧ RelS K cl am1 S1 H1 ∧ R am1 H1 a b ∧ PostN K cl W σ am H (k a S1) Q) := by
  cases r with
  | ok a S => exact fun am1 b H1 g rs rb => ⟨am1, S, a, rfl, g, rs, rb, p⟩
  | exc c S => exact p
  | bad => exact p
theorem Grow.unborn (g : Grow am am1 H H1) (rs : RelS K cl am1 S H1) {p : Addr} (h : H1 p = none) : H p = none := by
  cases q : H p with
  | none => rfl
  | some o =>
    by_cases hp : p ∈ am.ad
    · obtain ⟨r, e⟩ := g.pre
      have : p ∈ am1.ad := by rw [e]; exact List.mem_append_left _ hp
      exact absurd h (by obtain ⟨u, e2⟩ := rs.there p (am1.sub p this); rw [e2]; simp)
    · rw [g.keep p o q hp] at h
      cases h
/-- the object is laid at last -/
theorem PostN.laid {o : DO} {ov : HO} {q : Addr} (p : PostN K cl W σ am H (.ok o S) Q) (g : Grow am am1 H H1) (rs : RelS K cl am1 S H1) (hq : H1 q = none) (ho : OR K cl (am1.resv q) (upd H1 q ov) q o) : Q (.ref q) (upd H1 q ov) :=
  p (am1.resv q) q _ (g.trans (Grow.resv hq)) (rs.resv hq) (g.unborn rs hq) List.mem_cons_self (fun z => (rs.new hq) (am1.sub q z)) ho
theorem imp_ano : ∀ σ H Q, TD K cl W (VR K) (eAno f) σ H Q → TDN K cl W f σ H Q := fun σ H Q ⟨am, e, S, rs, re, p⟩ => by
  refine ⟨am, e, S, rs, re, ?_⟩
  unfold eAno at p
  cases q : f e S with
  | ok o S1 =>
    rw [q] at p
    intro am' a H' g rs' ha hn hd ho
    cases o with
    | lst xs =>
      obtain ⟨vs, h1, h2⟩ := ho
      exact p (am'.free a hd) (.ref a) H' (g.free hd (rs.new ha)) (rs'.free hd) (.lst h1 (AM.free_not hd) (h2.ext (Ext.free hd)))
    | dct xs =>
      obtain ⟨vs, h1, h2⟩ := ho
      exact p (am'.free a hd) (.ref a) H' (g.free hd (rs.new ha)) (rs'.free hd) (.dct h1 (AM.free_not hd) (h2.ext (Ext.free hd)))
    | ins c fs => exact p.elim
  | exc c S1 => rw [q] at p; exact p
  | bad => rw [q] at p; exact p.elim
theorem imp_new : ∀ σ H Q, TD K cl W (VR K) (eNew f) σ H Q → TDN K cl W f σ H Q := fun σ H Q ⟨am, e, S, rs, re, p⟩ => by
  refine ⟨am, e, S, rs, re, ?_⟩
  unfold eNew at p
  cases q : f e S with
  | ok o S1 =>
    rw [q] at p
    intro am' a H' g rs' ha hn hd ho
    refine p (am'.push a hn) (.ref a) H' (g.push hn ha) (rs'.push hn hd ho) (.ref ?_)
    show (am'.ad ++ [a])[S1.length]? = some a
    rw [← rs'.len, List.getElem?_append_right (Nat.le_refl _), Nat.sub_self]
    rfl
  | exc c S1 => rw [q] at p; exact p
  | bad => rw [q] at p; exact p.elim
end
section
variable {cl : Str → Addr} {W : WX} {X : Cx} {a b c : Expr} {es : List Expr} {f g h : Ev D} {fs : List (Ev D)} {fn : Ev DO} {pos : Pos}
theorem qe_ano (h : QN cl W X a fn) : QE cl W X a (eAno fn) := h.imp imp_ano
theorem qe_new (h : QN cl W X a fn) : QE cl W X a (eNew fn) := h.imp imp_new
def nLst (fs : List (Ev D)) : Ev DO := fun e S => (eArgs fs e S).bind fun xs S => .ok (.lst xs) S
theorem qn_lst (h : QA cl W X es (eArgs fs)) (hn : fs.length ≤ 1000 := by decide) : QN cl W X (.List es pos) (nLst fs) := (pe_lst h).imp fun σ H Q ⟨am, e, S, rs, re, p⟩ =>
  ⟨am, e, S, rs, re, (PostN.step p).imp fun xs H1 ⟨am1, S1, ds, ee, g1, rs1, rvs, p1⟩ =>
    ⟨by rw [← rvs.length, eArgs_len ee]; exact Nat.le_trans hn (by decide), fun q hq => p1.laid g1 rs1 hq ⟨xs, upd_same, rvs.mono (Grow.resv hq)⟩⟩⟩
def nDct0 : Ev DO := fun _ S => .ok (.dct []) S
theorem qn_dct0 : QN cl W X (.Dict [] [] pos) nDct0 := pe_dnewK.imp fun σ H Q ⟨am, e, S, rs, re, p⟩ => fun q hq => PostN.laid p .refl rs hq ⟨[], upd_same, .nil⟩
end

def sSet (i : Nat) (f : Ev D) : Stm := fun e S => (f e S).stm e fun d S => .next (e.set i (some d)) S
def sRet (f : Ev D) : Stm := fun e S => (f e S).stm e fun d S => .ret d S
def sExpr (f : Ev D) : Stm := fun e S => (f e S).stm e fun _ S => .next e S
def sNext : Stm := fun e S => .next e S
def sBrk : Stm := fun e S => .brk e S
def sSeq (a b : Stm) : Stm := fun e S => (a e S).seq b
def sIf (t : Ev Bool) (a b : Stm) : Stm := fun e S => (t e S).stm e fun k S => if k = true then a e S else b e S
/-- slots that nobody reads any more -/
def sFgt (vs : List Nat) (a : Stm) : Stm := fun e S => match a e S with
  | .next e S => .next (wipeE e vs) S
  | r => r
section
variable {cl : Str → Addr} {W : WX} {X : Cx} {st : Stmt} {rest sa sb : List Stmt} {a b c : Expr} {f g : Ev D} {t : Ev Bool} {u v : Stm} {pos : Pos}
theorem PostS.imp {K : PySem.W.Frag} {am : AM} {H : Hp} {r : SRes} {E E' : Ends} (p : PostS K cl W am H r E) (h1 : ∀ σ H', E.nx σ H' → E'.nx σ H') (h2 : ∀ v H', E.rt v H' → E'.rt v H') (h3 : ∀ σ H', E.bk σ H' → E'.bk σ H') (h4 : ∀ σ H', E.ct σ H' → E'.ct σ H') : PostS K cl W am H r E' := by
  cases r with
  | next e S => exact fun am' σ H' g rs re => h1 _ _ (p am' σ H' g rs re)
  | brk e S => exact fun am' σ H' g rs re => h3 _ _ (p am' σ H' g rs re)
  | cnt e S => exact fun am' σ H' g rs re => h4 _ _ (p am' σ H' g rs re)
  | ret d S => exact fun am' v H' g rs rv => h2 _ _ (p am' v H' g rs rv)
  | exc c e S => exact p
  | bad => exact p
theorem qs_set {i : Nat} {x : Str} {pos' : Pos} (hN : X.N.Nodup) (hi : X.N[i]? = some x) (hx : Loc X.env.scope x) (he : QE cl W X a f) (hs : swapsWith a (some (.Name x pos')) pos.line X.env = pure false := by rfl) (hf : X.fn x = true ∨ X.env.scope.names.lookup x = some .local := by first | exact .inl rfl | exact .inr rfl | assumption) :
    QS cl W X (.Assign [.Name x pos'] a pos) (sSet i f) := (ps_set hN hi hx he hs hf).imp fun E σ H ⟨am, e, S, rs, re, p⟩ =>
  ⟨am, e, S, rs, re, (PostS.step re p).imp fun x H1 ⟨am1, S1, d, _, g1, rs1, rv, p1⟩ => p1 am1 _ H1 .refl rs1 ((re.mono g1).set i rv)⟩
theorem qs_ret (he : QE cl W X a f) : QS cl W X (.Return (some a) pos) (sRet f) := (ps_ret he).imp fun E σ H ⟨am, e, S, rs, re, p⟩ =>
  ⟨am, e, S, rs, re, (PostS.step re p).imp fun x H1 ⟨am1, S1, d, _, g1, rs1, rv, p1⟩ => p1 am1 _ H1 .refl rs1 rv⟩
theorem qs_expr (he : QE cl W X a f) (hs : swapsWith a none pos.line X.env = pure false := by rfl) : QS cl W X (.Expr a pos) (sExpr f) := (ps_expr he hs).imp fun E σ H ⟨am, e, S, rs, re, p⟩ =>
  ⟨am, e, S, rs, re, (PostS.step re p).imp fun x H1 ⟨am1, S1, d, _, g1, rs1, rv, p1⟩ => p1 am1 _ H1 .refl rs1 (re.mono g1)⟩
theorem qs_pass : QS cl W X (.Pass pos) sNext := ps_pass.imp fun E σ H ⟨am, e, S, rs, re, p⟩ => p am σ H .refl rs re
theorem qs_brk : QS cl W X (.Break pos) sBrk := ps_break.imp fun E σ H ⟨am, e, S, rs, re, p⟩ => p am σ H .refl rs re
theorem qb_nil : QB cl W X [] sNext := pss_nil.imp fun E σ H ⟨am, e, S, rs, re, p⟩ => p am σ H .refl rs re
theorem qb_one (h : QS cl W X st u) : QB cl W X [st] u := pss_one h
theorem qb_cons (h1 : QS cl W X st u) (h2 : QB cl W X rest v) : QB cl W X (st :: rest) (sSeq u v) := (pss_cons h1 h2).imp fun E σ H ⟨am, e, S, rs, re, p⟩ => by
  refine ⟨am, e, S, rs, re, ?_⟩
  have p : PostS X.K cl W am H ((u e S).seq v) E := p
  cases q : u e S with
  | next e1 S1 =>
    rw [q] at p
    exact fun am1 σ1 H1 g1 rs1 re1 => ⟨am1, e1, S1, rs1, re1, PostS.grow g1 p⟩
  | brk e1 S1 => rw [q] at p; exact p
  | cnt e1 S1 => rw [q] at p; exact p
  | ret d S1 => rw [q] at p; exact p
  | exc c e1 S1 => rw [q] at p; exact p
  | bad => rw [q] at p; exact p
theorem qs_if (hc : QT cl W X c t) (ha : QB cl W X sa u) (hb : QB cl W X sb v) : QS cl W X (.If c sa sb pos) (sIf t u v) := (ps_if hc ha hb).imp fun E σ H ⟨am, e, S, rs, re, p⟩ =>
  ⟨am, e, S, rs, re, (PostS.step re p).imp fun k H1 ⟨am1, S1, k', _, g1, rs1, rk, p1⟩ => by
    have rk : k' = k := rk
    subst rk
    cases k' with
    | true => exact ⟨am1, e, S1, rs1, re.mono g1, p1⟩
    | false => exact ⟨am1, e, S1, rs1, re.mono g1, p1⟩⟩
theorem PostS.fgt {K : PySem.W.Frag} {am : AM} {H : Hp} {E : Ends} {vs : List Nat} {e : En} {S : Sto} (p : PostS K cl W am H (sFgt vs u e S) E) : PostS K cl W am H (u e S) E := by
  unfold sFgt at p
  cases q : u e S with
  | next e1 S1 => rw [q] at p; exact fun am' σ H' g rs re => p am' σ H' g rs (re.forget vs)
  | brk e1 S1 => rw [q] at p; exact p
  | cnt e1 S1 => rw [q] at p; exact p
  | ret d S1 => rw [q] at p; exact p
  | exc c e1 S1 => rw [q] at p; exact p
  | bad => rw [q] at p; exact p
theorem qs_fgt (vs : List Nat) (h : QS cl W X st u) : QS cl W X st (sFgt vs u) := h.imp fun E σ H ⟨am, e, S, rs, re, p⟩ => ⟨am, e, S, rs, re, PostS.fgt p⟩
theorem qb_fgt (vs : List Nat) (h : QB cl W X sa u) : QB cl W X sa (sFgt vs u) := h.imp fun E σ H ⟨am, e, S, rs, re, p⟩ => ⟨am, e, S, rs, re, PostS.fgt p⟩
end

inductive Tg where
  | nm (i : Nat) | tp (ts : List Tg)
mutual
def bindT : Tg → D → En → Option En
  | .nm i, d, e => some (e.set i (some d))
  | .tp ts, .tup ds, e => bindTs ts ds e
  | .tp ts, .tpi ds, e => bindTs ts ds e
  | .tp _, _, _ => none
def bindTs : List Tg → List D → En → Option En
  | [], [], e => some e
  | t :: ts, d :: ds, e => (bindT t d e).bind fun e => bindTs ts ds e
  | _, _, _ => none
end
mutual
def Tg.sl : Tg → List Nat
  | .nm i => [i]
  | .tp ts => slTs ts
def slTs : List Tg → List Nat
  | [] => []
  | t :: ts => t.sl ++ slTs ts
end
/-- only the slots at vs are others -/
structure But (vs : List Nat) (σ σ' : L2.St) : Prop where
  len : σ'.length = σ.length
  get : ∀ j, j ∉ vs → σ'[j]? = σ[j]?
theorem But.refl {vs : List Nat} {σ : L2.St} : But vs σ σ := ⟨rfl, fun _ _ => rfl⟩
theorem But.trans {vs us : List Nat} {σ σ1 σ2 : L2.St} (a : But vs σ σ1) (b : But us σ1 σ2) : But (vs ++ us) σ σ2 := ⟨b.len.trans a.len, fun j h => (b.get j fun z => h (List.mem_append_right _ z)).trans (a.get j fun z => h (List.mem_append_left _ z))⟩
theorem wipe_get {σ : L2.St} : ∀ {vs : List Nat} {j : Nat}, (L2.wipe σ vs)[j]? = if j ∈ vs then (if j < σ.length then some none else none) else σ[j]?
  | [], j => by simp [L2.wipe]
  | v :: vs, j => by
    show ((L2.wipe σ vs).set v none)[j]? = _
    rw [List.getElem?_set]
    by_cases hj : v = j
    · subst hj
      simp [wipe_length]
    · rw [if_neg hj, wipe_get (vs := vs)]
      have : (j ∈ v :: vs) ↔ j ∈ vs := by simp [Ne.symm hj]
      simp only [this]
theorem But.wipe {us vs : List Nat} {σ σ' : L2.St} (b : But us σ σ') (h : ∀ j, j ∈ us → j ∈ vs) : L2.wipe σ' vs = L2.wipe σ vs := by
  apply List.ext_getElem?
  intro j
  rw [wipe_get, wipe_get, b.len]
  by_cases hj : j ∈ vs
  · rw [if_pos hj, if_pos hj]
  · rw [if_neg hj, if_neg hj]
    exact b.get j fun z => hj (h j z)
def TDg (K : PySem.W.Frag) (cl : Str → Addr) (tg : Tg) : TG := fun v σ H Q => ∃ am e S d e', RelS K cl am S H ∧ RelE K am H e σ ∧ VR K am H d v ∧ bindT tg d e = some e' ∧ ∀ σ', RelE K am H e' σ' → But tg.sl σ σ' → Q σ' H
def TDgs (K : PySem.W.Frag) (cl : Str → Addr) (tg : List Tg) : TGs := fun vs σ H Q => ∃ am e S ds e', RelS K cl am S H ∧ RelE K am H e σ ∧ VRs K am H ds vs ∧ bindTs tg ds e = some e' ∧ ∀ σ', RelE K am H e' σ' → But (slTs tg) σ σ' → Q σ' H
abbrev QG (cl : Str → Addr) (X : Cx) (target : Expr) (tg : Tg) : Prop := PG X target (TDg X.K cl tg)
abbrev QGs (cl : Str → Addr) (X : Cx) (ts : List Expr) (tg : List Tg) : Prop := PGs X ts (TDgs X.K cl tg)
theorem _root_.L2.PG.imp {X : Cx} {e : Expr} {t t' : TG} (h : PG X e t) (i : ∀ v σ H Q, t' v σ H Q → t v σ H Q) : PG X e t' := ⟨fun pins s σ H v u Q I r q => h.run pins s σ H v u Q I r (i v σ H Q q)⟩
theorem _root_.L2.PGs.imp {X : Cx} {e : List Expr} {t t' : TGs} (h : PGs X e t) (i : ∀ v σ H Q, t' v σ H Q → t v σ H Q) : PGs X e t' := ⟨fun pins s σ H v u Q I r q => h.run pins s σ H v u Q I r (i v σ H Q q)⟩
section
variable {cl : Str → Addr} {X : Cx} {pos : Pos}
theorem But.set {i : Nat} {σ : L2.St} {v : Option V} : But [i] σ (σ.set i v) := ⟨List.length_set, fun j h => by rw [List.getElem?_set_ne]; simpa [eq_comm] using h⟩
theorem qg_nm {i : Nat} {x : Str} (hN : X.N.Nodup) (hi : X.N[i]? = some x) (hx : Loc X.env.scope x) (hf : X.fn x = true ∨ X.env.scope.names.lookup x = some .local := by first | exact .inl rfl | exact .inr rfl | assumption) : QG cl X (.Name x pos) (.nm i) :=
  (pg_name hN hi hx hf).imp fun v σ H Q ⟨am, e, S, d, e', rs, re, rv, eb, q⟩ => by
    cases eb
    exact q _ (re.set i rv) But.set
theorem qgs_nil : QGs cl X [] [] := pgs_nil.imp fun v σ H Q ⟨am, e, S, d, e', rs, re, rv, eb, q⟩ => by
  cases rv with
  | nil =>
    cases eb
    exact ⟨rfl, q σ re .refl⟩
  | cons _ _ => cases eb
theorem qgs_cons {e : Expr} {es : List Expr} {t : Tg} {ts : List Tg} (h1 : QG cl X e t) (h2 : QGs cl X es ts) (hs : (assignEach (e :: es) X.env).map (·.2) = assign e X.env :: (assignEach es X.env).map (·.2) := by rfl) : QGs cl X (e :: es) (t :: ts) :=
  (pgs_cons h1 h2 hs).imp fun v σ H Q ⟨am, e, S, ds, e', rs, re, rv, eb, q⟩ => by
    cases rv with
    | nil => cases eb
    | @cons d v1 ds1 vs1 r1 r2 =>
      have eb : ((bindT t d e).bind fun e => bindTs ts ds1 e) = some e' := eb
      cases q1 : bindT t d e with
      | none => rw [q1] at eb; cases eb
      | some e1 =>
        rw [q1] at eb
        exact ⟨_, _, rfl, am, e, S, d, e1, rs, re, r1, q1, fun σ1 re1 b1 => ⟨am, e1, S, ds1, e', rs, re1, r2, eb, fun σ2 re2 b2 => q σ2 re2 (b1.trans b2)⟩⟩
theorem qg_tp {es : List Expr} {k : Nat} {ts : List Tg} {n : Nat} (hc : X.calm = true) (h : QGs cl X es ts) (hl : ts.length = n) (hn : (assignEach es X.env).length = n := by rfl) (hst : (assignEach es X.env).findIdx? (·.1) = none := by rfl) : QG cl X (.Tuple es k pos) (.tp ts) :=
  (pg_tup hc h hn hst).imp fun v σ H Q ⟨am, e, S, d, e', rs, re, rv, eb, q⟩ => by
    have len : ∀ (ts : List Tg) (ds : List D) (e e' : En), bindTs ts ds e = some e' → ds.length = ts.length := by
      intro ts
      induction ts with
      | nil => intro ds e e' h; cases ds with | nil => rfl | cons _ _ => cases h
      | cons t ts ih =>
        intro ds e e' h
        cases ds with
        | nil => cases h
        | cons d ds =>
          have h : ((bindT t d e).bind fun e => bindTs ts ds e) = some e' := h
          cases q1 : bindT t d e with
          | none => rw [q1] at h; cases h
          | some e1 => rw [q1] at h; rw [List.length_cons, List.length_cons, ih ds e1 e' h]
    cases rv with
    | @tup a vs ds ht hs => exact ⟨a, vs, rfl, ht.seq, by rw [← hs.length, len ts ds e e' eb, hl], am, e, S, ds, e', rs, re, hs, eb, q⟩
    | @tpi a vs ds ht hs => exact ⟨a, vs, rfl, .inl ht.1, by rw [← hs.length, len ts ds e e' eb, hl], am, e, S, ds, e', rs, re, hs, eb, q⟩
    | _ => cases eb
end
/-- target = value, any target of names -/
def sAsg (tg : Tg) (f : Ev D) : Stm := fun e S => (f e S).stm e fun d S => match bindT tg d e with
  | some e' => .next e' S
  | none => .bad
section
variable {cl : Str → Addr} {W : WX} {X : Cx} {a tgE : Expr} {f : Ev D} {tg : Tg} {pos : Pos}
theorem qs_asg (he : QE cl W X a f) (hg : QG cl X tgE tg) (hs : swapsWithSole [tgE] a pos.line X.env = pure false := by rfl) (hw : swappedStores [tgE] a X.env = pure none := by rfl)
    (h1 : (assignEach [tgE] X.env).map (·.2) = [assign tgE X.env] := by rfl) : QS cl W X (.Assign [tgE] a pos) (sAsg tg f) := (ps_asg he hg hs hw h1).imp fun E σ H ⟨am, e, S, rs, re, p⟩ =>
  ⟨am, e, S, rs, re, (PostS.step re p).imp fun x H1 ⟨am1, S1, d, _, g1, rs1, rv, p1⟩ => by
    cases q : bindT tg d e with
    | none => simp only [q] at p1; exact p1.elim
    | some e' =>
      simp only [q] at p1
      exact ⟨am1, e, S1, d, e', rs1, re.mono g1, rv, q, fun σ' re' _ => p1 am1 σ' H1 .refl rs1 re'⟩⟩
end

inductive Src where
  | tmp (xs : List D) | st (k : Nat) (xs : List D)
def Src.items : Src → List D
  | .tmp xs => xs
  | .st _ xs => xs
def Src.ok : Src → Sto → Prop
  | .tmp _, _ => True
  | .st k xs, S => S[k]? = some (.lst xs)
noncomputable instance (src : Src) (S : Sto) : Decidable (src.ok S) := Classical.propDecidable _
@[simp] theorem Src.items_tmp {xs : List D} : (Src.tmp xs).items = xs := id rfl
@[simp] theorem Src.items_st {k : Nat} {xs : List D} : (Src.st k xs).items = xs := id rfl
@[simp] theorem Src.ok_tmp {xs : List D} {S : Sto} : (Src.tmp xs).ok S = True := id rfl
@[simp] theorem Src.ok_st {xs : List D} {k : Nat} {S : Sto} : (Src.st k xs).ok S = (S[k]? = some (.lst xs)) := id rfl
/-- an iterator gives the items -/
def SrcJ (K : PySem.W.Frag) (cl : Str → Addr) (src : Src) (am : AM) (H : Hp) (J : It) : Prop :=
  ∀ (am' : AM) (H' : Hp) (S' : Sto), Grow am am' H H' → RelS K cl am' S' H' → src.ok S' →
    (∀ (i : Nat) (d : D), src.items[i]? = some d → J.go i H' ∧ ∀ (x : V) (H2 : Hp), J.yld i H' x H2 → ∃ am2, Grow am' am2 H' H2 ∧ RelS K cl am2 S' H2 ∧ VR K am2 H2 d x) ∧
    (∀ i : Nat, src.items.length ≤ i → J.stop i H')
def TDi (K : PySem.W.Frag) (cl : Str → Addr) (W : WX) (f : Ev Src) : TI := fun σ H R => ∃ am e S, RelS K cl am S H ∧ RelE K am H e σ ∧ Post K cl W σ (SrcJ K cl |> fun P => fun am H (s : Src) (J : It) => P s am H J) am H (f e S) R
abbrev QI (cl : Str → Addr) (W : WX) (X : Cx) (tg iter : Expr) (f : Ev Src) : Prop := PI X tg iter (TDi X.K cl W f)
theorem _root_.L2.PI.imp {X : Cx} {tg e : Expr} {t t' : TI} (h : PI X tg e t) (i : ∀ σ H R, t' σ H R → t σ H R) : PI X tg e t' := ⟨fun pins s σ H R I q => h.run pins s σ H R I (i σ H R q)⟩
/-- a value as a source: a list or a tuple -/
def srcL (d : D) (S : Sto) : Res Src := match d with
  | .lst xs => .ok (.tmp xs) S
  | .fls xs => .ok (.tmp xs) S
  | .ref k => match S[k]? with
    | some (.lst xs) => .ok (.st k xs) S
    | _ => .bad
  | _ => .bad
def srcT (d : D) (S : Sto) : Res Src := match d with
  | .tup xs => .ok (.tmp xs) S
  | _ => .bad
def iL (f : Ev D) : Ev Src := fun e S => (f e S).bind srcL
def iT (f : Ev D) : Ev Src := fun e S => (f e S).bind srcT
section
variable {cl : Str → Addr} {W : WX} {X : Cx} {a b tgE : Expr} {f g : Ev D} {pos : Pos} {K : PySem.W.Frag}
theorem itl_ok {src : Src} {am : AM} {H : Hp} {a : Addr} (h : ∀ (am' : AM) (H' : Hp) (S' : Sto), Grow am am' H H' → RelS K cl am' S' H' → src.ok S' → ∃ vs, SqL K H' a vs ∧ VRs K am' H' src.items vs) : SrcJ K cl src am H (Itl K a) := by
  intro am' H' S' g rs hs
  obtain ⟨vs, h1, h2⟩ := h am' H' S' g rs hs
  refine ⟨fun i d hd => ?_, fun i hi => ⟨vs, h1, by rw [← h2.length]; exact hi⟩⟩
  obtain ⟨v, hv, rv⟩ := h2.get hd
  refine ⟨⟨vs, v, h1, hv⟩, fun x H2 hy => ?_⟩
  obtain ⟨rfl, hy⟩ := hy
  have e : v = x := Option.some.inj (hv.symm.trans (hy vs h1))
  subst e
  exact ⟨am', .refl, rs, rv⟩
theorem qi_l (ha : QE cl W X a f) : QI cl W X tgE a (iL f) := (pi_list ha).imp fun σ H R ⟨am, e, S, rs, re, p⟩ =>
  ⟨am, e, S, rs, re, (Post.step p).imp fun x H1 ⟨am1, S1, d, _, g1, rs1, rv, p1⟩ => by
    cases rv with
    | @lst a vs ds h1 h2 h3 =>
      refine ⟨a, rfl, ⟨vs, .inl (.inl h1)⟩, p1 am1 _ H1 .refl rs1 (itl_ok fun am' H' S' g rs hs => ⟨vs, .inl (.inl (g.ext.keep _ _ h1 h2).1), h3.mono g⟩)⟩
    | @fls a vs ds h1 h3 =>
      refine ⟨a, rfl, ⟨vs, h1.seq⟩, p1 am1 _ H1 .refl rs1 (itl_ok fun am' H' S' g rs hs => ⟨vs, (h1.ext g.ext).seq, h3.mono g⟩)⟩
    | @ref k a h1 =>
      simp only [srcL] at p1
      cases q : S1[k]? with
      | none => rw [q] at p1; exact p1.elim
      | some o =>
        rw [q] at p1
        cases o with
        | lst xs =>
          obtain ⟨vs, h2, h3⟩ := rs1.ob k _ a q h1
          refine ⟨a, rfl, ⟨vs, .inl (.inl h2)⟩, p1 am1 _ H1 .refl rs1 (itl_ok fun am' H' S' g rs hs => ?_)⟩
          obtain ⟨vs', h2', h3'⟩ := rs.ob k _ a hs (g.get h1)
          exact ⟨vs', .inl (.inl h2'), h3'⟩
        | dct _ => exact p1.elim
        | ins _ _ => exact p1.elim
    | _ => exact p1.elim⟩
theorem qi_t (ha : QE cl W X a f) : QI cl W X tgE a (iT f) := (pi_tup ha).imp fun σ H R ⟨am, e, S, rs, re, p⟩ =>
  ⟨am, e, S, rs, re, (Post.step p).imp fun x H1 ⟨am1, S1, d, _, g1, rs1, rv, p1⟩ => by
    cases rv with
    | @tup a vs ds h1 h2 =>
      refine ⟨a, rfl, ⟨vs, h1.seq⟩, p1 am1 _ H1 .refl rs1 fun am' H' S' g rs hs => ?_⟩
      have h1' := (h1.ext g.ext).seq
      have h2' := h2.mono g
      refine ⟨fun i d hd => ?_, fun i hi => ⟨vs, h1', by rw [← h2'.length]; exact hi⟩⟩
      obtain ⟨v, hv, rv⟩ := h2'.get hd
      refine ⟨⟨vs, v, h1', hv⟩, fun x H2 hy => ?_⟩
      obtain ⟨rfl, hy⟩ := hy
      have e : v = x := Option.some.inj (hv.symm.trans (hy vs h1'))
      subst e
      exact ⟨am', .refl, rs, rv⟩
    | _ => exact p1.elim⟩
/-- range -/
def rngD (lo hi : Int) : List D := (List.range (hi - lo).toNat).map fun i : Nat => D.int (lo + (i : Nat))
def Rg62 (i : Int) : Prop := -(2 ^ 62) ≤ i ∧ i < 2 ^ 62
instance (i : Int) : Decidable (Rg62 i) := by unfold Rg62; infer_instance
def srcR1 (ds : List D) (S : Sto) : Res Src := match ds with
  | [.int j] => if Rg62 j then .ok (.tmp (rngD 0 j)) S else .bad
  | _ => .bad
def srcR2 (ds : List D) (S : Sto) : Res Src := match ds with
  | [.int i, .int j] => if Rg62 i ∧ Rg62 j then .ok (.tmp (rngD i j)) S else .bad
  | _ => .bad
def iR1 (f : Ev D) : Ev Src := fun e S => (eArgs [f] e S).bind srcR1
def iR2 (f g : Ev D) : Ev Src := fun e S => (eArgs [f, g] e S).bind srcR2
theorem itr_ok {lo : Int} {n : Nat} {xs : List D} {am : AM} {H : Hp} (hx : xs = (List.range n).map fun i : Nat => D.int (lo + (i : Nat))) : SrcJ K cl (.tmp xs) am H (Itr lo n) := by
  intro am' H' S' g rs hs
  subst hx
  refine ⟨fun i d hd => ?_, fun i hi => by simpa [Itr] using hi⟩
  have hi : i < n := by
    have := (List.getElem?_eq_some_iff.mp hd).1
    simpa using this
  have e : d = .int (lo + (i : Nat)) := by
    have hd : ((List.range n).map fun i : Nat => D.int (lo + (i : Nat)))[i]? = some d := hd
    rw [List.getElem?_map, List.getElem?_range hi] at hd
    exact (Option.some.inj hd).symm
  subst e
  refine ⟨hi, fun x H2 hy => ?_⟩
  obtain ⟨rfl, rfl⟩ := hy
  exact ⟨am', .refl, rs, .int _⟩
variable {p' : Pos}
theorem qi_r1 (hg : Gl X "range") (hm : X.mg "range" = none) (ha : QE cl W X a f) (h0 : starEach [a] X.env = (false, eval a X.env) :: starEach [] X.env := by rfl) (hs : starEach [a] X.env = [(false, eval a X.env)] := by rfl) : QI cl W X tgE (.Call (.Name "range" p') [a] [] pos) (iR1 f) :=
  (pi_range1 hg hm (qa_cons ha qa_nil h0) hs).imp fun σ H R ⟨am, e, S, rs, re, p⟩ =>
    ⟨am, e, S, rs, re, (Post.step p).imp fun xs H1 ⟨am1, S1, ds, _, g1, rs1, rv, p1⟩ => by
      cases rv with
      | nil => exact p1.elim
      | cons r1 r2 =>
        cases r2 with
        | nil =>
          cases r1 with
          | int j =>
            simp only [srcR1] at p1
            by_cases hj : Rg62 j
            · rw [if_pos hj] at p1
              exact ⟨j, rfl, hj.1, hj.2, p1 am1 _ H1 .refl rs1 (itr_ok (by unfold rngD; simp))⟩
            · rw [if_neg hj] at p1
              exact p1.elim
          | _ => exact p1.elim
        | cons _ _ => cases r1 <;> exact p1.elim⟩
theorem qi_r2 (hg : Gl X "range") (hm : X.mg "range" = none) (ha : QE cl W X a f) (hb : QE cl W X b g) (h0 : starEach [a, b] X.env = (false, eval a X.env) :: starEach [b] X.env := by rfl) (h1 : starEach [b] X.env = (false, eval b X.env) :: starEach [] X.env := by rfl)
    (hs : starEach [a, b] X.env = [(false, eval a X.env), (false, eval b X.env)] := by rfl) (hs2 : starEach [b] X.env = [(false, eval b X.env)] := by rfl) : QI cl W X tgE (.Call (.Name "range" p') [a, b] [] pos) (iR2 f g) :=
  (pi_range2 hg hm (qa_cons ha (qa_cons hb qa_nil h1) h0) hs hs2).imp fun σ H R ⟨am, e, S, rs, re, p⟩ =>
    ⟨am, e, S, rs, re, (Post.step p).imp fun xs H1 ⟨am1, S1, ds, _, g1, rs1, rv, p1⟩ => by
      cases rv with
      | nil => exact p1.elim
      | cons r1 r2 =>
        cases r2 with
        | nil => cases r1 <;> exact p1.elim
        | cons r2 r3 =>
          cases r3 with
          | nil =>
            cases r1 with
            | int i =>
              cases r2 with
              | int j =>
                simp only [srcR2] at p1
                by_cases hj : Rg62 i ∧ Rg62 j
                · rw [if_pos hj] at p1
                  exact ⟨i, j, rfl, ⟨hj.1.1, hj.1.2, hj.2.1, hj.2.2⟩, p1 am1 _ H1 .refl rs1 (itr_ok rfl)⟩
                · rw [if_neg hj] at p1
                  exact p1.elim
              | _ => exact p1.elim
            | _ => cases r2 <;> exact p1.elim
          | cons _ _ => cases r1 <;> cases r2 <;> exact p1.elim⟩
end

/-- dead: slots that a turn leaves for none -/
noncomputable def forD (dead : List Nat) (tg : Tg) (src : Src) (body : Stm) : List D → En → Sto → SRes
  | [], e, S => if src.ok S then .next e S else .bad
  | x :: xs, e, S => if src.ok S then match bindT tg x e with
    | none => .bad
    | some e1 => match body e1 S with
      | .next e2 S2 => forD dead tg src body xs (wipeE e2 dead) S2
      | .cnt e2 S2 => forD dead tg src body xs (wipeE e2 dead) S2
      | .brk e2 S2 => .next e2 S2
      | r => r
    else .bad
noncomputable def sFor (dead : List Nat) (tg : Tg) (it : Ev Src) (body : Stm) : Stm := fun e S => (it e S).stm e fun src S => forD dead tg src body src.items e S
section
variable {cl : Str → Addr} {W : WX} {X : Cx} {tgE iter : Expr} {body : List Stmt} {pos : Pos} {it : Ev Src} {tg : Tg} {u : Stm}
theorem qs_for (dead : List Nat) (hp : PassesOwn (model X.prog X.w) X.A X.env X.xe) (hc : X.calm = true) (hi : QI cl W X tgE iter it) (hg : QG cl X tgE tg) (hb : QB cl W X body u) (hs : ∀ x, foldedSetIterable iter X.env x = pure x := by intro _; rfl) :
    QS cl W X (.For tgE iter body [] pos) (sFor dead tg it u) := (ps_for hp hc hi hg hb hs).imp fun E σ H ⟨am, e, S, rs, re, p⟩ => by
  refine ⟨am, e, S, rs, re, (PostS.step re p).imp fun J H1 ⟨am1, S1, src, _, g1, rs1, hJ, p1⟩ => ?_⟩
  refine ⟨fun i m σ H => m = src.items.length - i ∧ i ≤ src.items.length ∧ ∃ am2 e2 S2, Grow am1 am2 H1 H ∧ RelS X.K cl am2 S2 H ∧ RelE X.K am2 H e2 σ ∧ PostS X.K cl W am2 H (forD dead tg src u (src.items.drop i) e2 S2) E,
    ⟨_, rfl, Nat.zero_le _, am1, e, S1, .refl, rs1, re.mono g1, by rw [List.drop_zero]; exact p1⟩, ?_⟩
  rintro i m σ2 H2 ⟨rfl, hi, am2, e2, S2, g2, rs2, re2, p2⟩
  by_cases hok : src.ok S2
  · obtain ⟨hgo, hstop⟩ := hJ am2 H2 S2 g2 rs2 hok
    by_cases hlt : i < src.items.length
    · rw [List.drop_eq_getElem_cons hlt] at p2
      unfold forD at p2
      rw [if_pos hok] at p2
      have hd : src.items[i]? = some src.items[i] := List.getElem?_eq_getElem hlt
      obtain ⟨go, yld⟩ := hgo i _ hd
      refine .inr ⟨go, fun σ' H' => ∃ am3 e3 S3, Grow am1 am3 H1 H' ∧ RelS X.K cl am3 S3 H' ∧ RelE X.K am3 H' e3 σ' ∧ PostS X.K cl W am3 H' (forD dead tg src u (src.items.drop (i + 1)) e3 S3) E,
        fun σ' H' hN => ⟨src.items.length - (i + 1), by omega, rfl, hlt, hN⟩, fun x H3 hy => ?_⟩
      obtain ⟨am3, g3, rs3, rv⟩ := yld x H3 hy
      cases q : bindT tg src.items[i] e2 with
      | none => simp only [q] at p2; exact p2.elim
      | some e3 =>
        simp only [q] at p2
        refine ⟨am3, e2, S2, _, e3, rs3, re2.mono g3, rv, q, fun σ3 re3 _ => ⟨am3, e3, S2, rs3, re3, ?_⟩⟩
        cases q2 : u e3 S2 with
        | next e4 S4 =>
          simp only [q2] at p2
          exact fun am4 σ4 H4 g4 rs4 re4 => ⟨am4, _, S4, (g2.trans g3).trans g4, rs4, re4.forget dead, PostS.grow (g3.trans g4) p2⟩
        | cnt e4 S4 =>
          simp only [q2] at p2
          exact fun am4 σ4 H4 g4 rs4 re4 => ⟨am4, _, S4, (g2.trans g3).trans g4, rs4, re4.forget dead, PostS.grow (g3.trans g4) p2⟩
        | brk e4 S4 =>
          simp only [q2] at p2
          exact fun am4 σ4 H4 g4 rs4 re4 => p2 am4 σ4 H4 (g3.trans g4) rs4 re4
        | ret d S4 =>
          simp only [q2] at p2
          exact fun am4 v H4 g4 rs4 rv4 => p2 am4 v H4 (g3.trans g4) rs4 rv4
        | exc c e4 S4 =>
          simp only [q2] at p2
          exact fun am4 σ4 H4 g4 rs4 re4 => p2 am4 σ4 H4 (g3.trans g4) rs4 re4
        | bad =>
          simp only [q2] at p2
          exact p2
    · have ei : i = src.items.length := by omega
      subst ei
      rw [List.drop_length] at p2
      unfold forD at p2
      rw [if_pos hok] at p2
      exact .inl ⟨hstop _ (Nat.le_refl _), p2 am2 σ2 H2 .refl rs2 re2⟩
  · exfalso
    cases hl : src.items.drop i with
    | nil => rw [hl] at p2; unfold forD at p2; rw [if_neg hok] at p2; exact p2
    | cons x xs => rw [hl] at p2; unfold forD at p2; rw [if_neg hok] at p2; exact p2
end

def whileN (dead : List Nat) (t : Ev Bool) (body : Stm) : Nat → En → Sto → SRes
  | 0, _, _ => .bad
  | n + 1, e, S => match t e S with
    | .ok true S => match body e S with
      | .next e2 S2 => whileN dead t body n (wipeE e2 dead) S2
      | .cnt e2 S2 => whileN dead t body n (wipeE e2 dead) S2
      | .brk e2 S2 => .next e2 S2
      | r => r
    | .ok false S => .next e S
    | .exc c S => .exc c e S
    | .bad => .bad
theorem whileN_mono {dead : List Nat} {t : Ev Bool} {body : Stm} : ∀ {n : Nat} {e : En} {S : Sto}, whileN dead t body n e S ≠ .bad → whileN dead t body (n + 1) e S = whileN dead t body n e S
  | 0, _, _, h => absurd rfl h
  | n + 1, e, S, h => by
    unfold whileN at h
    show whileN dead t body (n + 1 + 1) e S = _
    conv => lhs; unfold whileN
    conv => rhs; unfold whileN
    cases q : t e S with
    | ok b S1 =>
      cases b with
      | true =>
        simp only [q] at h ⊢
        cases q2 : body e S1 with
        | next e2 S2 => simp only [q2] at h ⊢; exact whileN_mono h
        | cnt e2 S2 => simp only [q2] at h ⊢; exact whileN_mono h
        | _ => rfl
      | false => rfl
    | exc c S1 => rfl
    | bad => rfl
theorem whileN_le {dead : List Nat} {t : Ev Bool} {body : Stm} {n m : Nat} {e : En} {S : Sto} (h : whileN dead t body n e S ≠ .bad) (hm : n ≤ m) : whileN dead t body m e S = whileN dead t body n e S := by
  induction m with
  | zero => have : n = 0 := by omega
            subst this; rfl
  | succ m ih =>
    by_cases hn : n = m + 1
    · subst hn; rfl
    · have q := ih (by omega)
      rw [← q] at h ⊢
      exact whileN_mono h
open Classical in
noncomputable def whileD (dead : List Nat) (t : Ev Bool) (body : Stm) : Stm := fun e S => if h : ∃ n, whileN dead t body n e S ≠ .bad then whileN dead t body (choose h) e S else .bad
theorem whileD_eq {dead : List Nat} {t : Ev Bool} {body : Stm} {n : Nat} {e : En} {S : Sto} {r : SRes} (h : whileN dead t body n e S = r) (hr : r ≠ .bad) : whileD dead t body e S = r := by
  have hx : ∃ n, whileN dead t body n e S ≠ .bad := ⟨n, by rw [h]; exact hr⟩
  unfold whileD
  rw [dif_pos hx]
  have q := Classical.choose_spec hx
  rcases Nat.le_total n (Classical.choose hx) with hl | hl
  · rw [whileN_le (by rw [h]; exact hr) hl, h]
  · rw [← whileN_le q hl, h]
section
variable {cl : Str → Addr} {W : WX} {X : Cx} {c : Expr} {body : List Stmt} {pos : Pos} {t : Ev Bool} {u : Stm}
theorem qs_while (dead : List Nat) (hp : PassesOwn (model X.prog X.w) X.A X.env X.xe) (hc : QT cl W X c t) (hb : QB cl W X body u) : QS cl W X (.While c body [] pos) (whileD dead t u) := (ps_while hp hc hb).imp fun E σ H ⟨am, e, S, rs, re, p⟩ => by
  unfold whileD at p
  by_cases hx : ∃ n, whileN dead t u n e S ≠ .bad
  · rw [dif_pos hx] at p
    refine ⟨fun n σ H => ∃ am e S, RelS X.K cl am S H ∧ RelE X.K am H e σ ∧ PostS X.K cl W am H (whileN dead t u n e S) E, ⟨_, am, e, S, rs, re, p⟩, ?_⟩
    rintro n σ1 H1 ⟨am1, e1, S1, rs1, re1, p1⟩
    cases n with
    | zero => exact p1.elim
    | succ n =>
      refine ⟨am1, e1, S1, rs1, re1, ?_⟩
      unfold whileN at p1
      cases q : t e1 S1 with
      | exc c S2 =>
        simp only [q] at p1
        exact fun am2 H2 g2 rs2 => p1 am2 σ1 H2 g2 rs2 (re1.mono g2)
      | bad => simp only [q] at p1; exact p1
      | ok b S2 =>
        intro am2 k H2 g2 rs2 rk
        have rk : b = k := rk
        subst rk
        cases b with
        | false =>
          simp only [q] at p1
          show E.nx σ1 H2
          exact p1 am2 σ1 H2 g2 rs2 (re1.mono g2)
        | true =>
          simp only [q] at p1
          refine ⟨fun σ' H' => ∃ am e S, RelS X.K cl am S H' ∧ RelE X.K am H' e σ' ∧ PostS X.K cl W am H' (whileN dead t u n e S) E, fun σ' H' h => ⟨n, Nat.lt_succ_self n, h⟩, am2, e1, S2, rs2, re1.mono g2, ?_⟩
          cases q2 : u e1 S2 with
          | next e4 S4 =>
            simp only [q2] at p1
            exact fun am4 σ4 H4 g4 rs4 re4 => ⟨am4, _, S4, rs4, re4.forget dead, PostS.grow (g2.trans g4) p1⟩
          | cnt e4 S4 =>
            simp only [q2] at p1
            exact fun am4 σ4 H4 g4 rs4 re4 => ⟨am4, _, S4, rs4, re4.forget dead, PostS.grow (g2.trans g4) p1⟩
          | brk e4 S4 =>
            simp only [q2] at p1
            exact fun am4 σ4 H4 g4 rs4 re4 => p1 am4 σ4 H4 (g2.trans g4) rs4 re4
          | ret d S4 =>
            simp only [q2] at p1
            exact fun am4 v H4 g4 rs4 rv4 => p1 am4 v H4 (g2.trans g4) rs4 rv4
          | exc c e4 S4 =>
            simp only [q2] at p1
            exact fun am4 σ4 H4 g4 rs4 re4 => p1 am4 σ4 H4 (g2.trans g4) rs4 re4
          | bad =>
            simp only [q2] at p1
            exact p1
  · rw [dif_neg hx] at p
    exact p.elim
end
end Pu
set_option Elab.async false
set_option linter.all false
set_option maxRecDepth 100000
namespace Pu
open PySem PySem.Spec PyProof.Rows L2

/-- nothing may be raised here -/
def nox {α : Type} (r : Res α) : Res α := match r with
  | .ok a S => .ok a S
  | _ => .bad
@[simp] theorem nox_ok {α : Type} {a : α} {S : Sto} : nox (.ok a S) = .ok a S := id rfl
noncomputable def lcD (tg : Tg) (src : Src) (t : Ev Bool) (f : Ev D) (e : En) : List D → Sto → Res (List D)
  | [], S => if src.ok S then .ok [] S else .bad
  | x :: xs, S => if src.ok S then match bindT tg x e with
    | none => .bad
    | some e1 => (nox (t e1 S)).bind fun b S => if b = true then (nox (f e1 S)).bind fun d S => (lcD tg src t f e xs S).bind fun ds S => .ok (d :: ds) S else lcD tg src t f e xs S
    else .bad
theorem lcD_nil {tg : Tg} {src : Src} {t : Ev Bool} {f : Ev D} {e : En} {S : Sto} : lcD tg src t f e [] S = if src.ok S then .ok [] S else .bad := by
  unfold lcD
  rfl
theorem lcD_cons {tg : Tg} {src : Src} {t : Ev Bool} {f : Ev D} {e : En} {S : Sto} {x : D} {xs : List D} : lcD tg src t f e (x :: xs) S = if src.ok S then match bindT tg x e with
    | none => .bad
    | some e1 => (nox (t e1 S)).bind fun b S => if b = true then (nox (f e1 S)).bind fun d S => (lcD tg src t f e xs S).bind fun ds S => .ok (d :: ds) S else lcD tg src t f e xs S
    else .bad := by
  conv => lhs; unfold lcD
noncomputable def nLc (vs : List Nat) (tg : Tg) (it : Ev Src) (t : Ev Bool) (f : Ev D) : Ev DO := fun e S => (it e S).bind fun src S => if src.items.length ≤ sizeLine then (lcD tg src t f (wipeE e vs) src.items S).bind fun ds S => .ok (.lst ds) S else .bad
def tYesD : Ev Bool := fun _ S => .ok true S
abbrev W0 : WX := fun _ _ _ _ => False
section
variable {K : PySem.W.Frag} {cl : Str → Addr} {W : WX} {am am' : AM} {H H' : Hp} {S : Sto}
/-- a reserved object is written by its owner -/
theorem Ext.own {D : Addr} {o : HO} (hn : D ∈ am.no) : Ext am am H (L2.upd H D o) := ⟨fun _ _ h => h, fun b u hb nb => ⟨by rw [upd_ne (show b ≠ D from fun e => nb (by rw [e]; exact hn))]; exact hb, nb⟩⟩
theorem RelS.own {D : Addr} {o : HO} (r : RelS K cl am S H) (hn : D ∈ am.no) (hd : D ∉ am.ad) : RelS K cl am S (L2.upd H D o) :=
  ⟨r.len, r.nd, fun k u b h1 h2 => (r.ob k u b h1 h2).ext (Ext.own hn) fun w hw => by rw [upd_ne (show b ≠ D from fun e => hd (by rw [← e]; exact List.mem_of_getElem? h2))]; exact hw, fun b hb => by
    by_cases e : b = D
    · exact ⟨o, by rw [e]; exact upd_same⟩
    · obtain ⟨u, q⟩ := r.there b hb
      exact ⟨u, by rw [upd_ne e]; exact q⟩⟩
theorem Grow.own {D : Addr} {o : HO} (g : Grow am am' H H') (h : H D = none) : Grow am am' H (L2.upd H' D o) := ⟨g.pre, g.fresh, g.freshNo, g.noK, fun b u hb nb => by
  rw [upd_ne (ne_of_none hb h)]
  exact g.keep b u hb nb⟩
theorem Grow.inNo {D : Addr} (g : Grow am am' H H') (hD : ∃ o, H D = some o) (hd : D ∉ am.ad) : D ∉ am'.ad := fun z => by
  obtain ⟨o, e⟩ := hD
  have q := g.fresh D z hd
  rw [e] at q; cases q
theorem RelE.length_le {e : En} {σ σ' : L2.St} (r : RelE K am H e σ) : True := trivial
end
section
variable {cl : Str → Addr} {W : WX} {X : Cx} {elt tgE iter : Expr} {ifs : List Expr} {scope : Scope} {own : List (Str × Nat)} {pos spos : Pos} {it : Ev Src} {tg : Tg} {t : Ev Bool} {f : Ev D}
/-- a clause's tests -/
abbrev QTs (cl : Str → Addr) (W : WX) (X : Cx) (ifs : List Expr) (f : Ev Bool) : Prop := PTs X ifs (TD X.K cl W RB f)
theorem qts_nil {X : Cx} : QTs cl W X [] tYesD := ⟨fun pins s σ H Q I ⟨am, e, S, rs, re, p⟩ => pts_nil.run pins s σ H Q I (p am true H .refl rs rfl)⟩
theorem qts_one {X : Cx} {c : Expr} {f : Ev Bool} (h : QT cl W X c f) : QTs cl W X [c] f := pts_one h
/-- the reading of a comprehension, whatever becomes of the list -/
theorem imp_lc {K : PySem.W.Frag} (hsl : ∀ j, j ∈ tg.sl → j ∈ own.map (·.2)) (σ : L2.St) (H : Hp) (Q : VK) :
    TDN K cl W (nLc (own.map (·.2)) tg it t f) σ H Q → tLc (TDi K cl W it) (TDg K cl tg) (TD K cl W0 RB t) (TD K cl W0 (VR K) f) (own.map (·.2)) σ H Q := fun ⟨am, e, S, rs, re, p⟩ => by
  refine ⟨am, e, S, rs, re, (PostN.step p).imp fun J H1 ⟨am1, S1, src, _, g1, rs1, hJ, p1⟩ => ?_⟩
  intro D hD
  by_cases hz : src.items.length ≤ sizeLine
  · rw [if_pos hz] at p1
    have hD0 : H D = none := g1.unborn rs1 hD
    -- the invariant
    refine ⟨fun i m H2 => m = src.items.length - i ∧ i ≤ src.items.length ∧ ∃ am2 S2 acc vacc, Grow am1 am2 H1 H2 ∧ RelS K cl am2 S2 H2 ∧ D ∈ am2.no ∧ D ∉ am2.ad ∧ H2 D = some (.lst vacc) ∧ VRs K am2 H2 acc vacc ∧ acc.length ≤ i ∧
        RelE K am2 H2 (wipeE e (own.map (·.2))) (L2.wipe σ (own.map (·.2))) ∧
        ((lcD tg src t f (wipeE e (own.map (·.2))) src.items S1).bind fun ds S => Res.ok (DO.lst ds) S) = ((lcD tg src t f (wipeE e (own.map (·.2))) (src.items.drop i) S2).bind fun ds S => .ok (.lst (acc ++ ds)) S),
      ⟨_, rfl, Nat.zero_le _, am1.resv D, S1, [], [], Grow.resv hD, rs1.resv hD, List.mem_cons_self, fun z => rs1.new hD (am1.sub D z), upd_same, .nil, Nat.le_refl _, ((re.wipe _).mono g1).mono (Grow.resv hD), by rw [List.drop_zero] <;> rfl⟩, ?_⟩
    rintro i m H2 ⟨rfl, hi, am2, S2, acc, vacc, g2, rs2, dn, dd, hacc, racc, lacc, re2, eqn⟩
    rw [eqn] at p1
    by_cases hok : src.ok S2
    · obtain ⟨hgo, hstop⟩ := hJ am2 H2 S2 g2 rs2 hok
      by_cases hlt : i < src.items.length
      · have hd : src.items[i]? = some src.items[i] := List.getElem?_eq_getElem hlt
        obtain ⟨go, yld⟩ := hgo i _ hd
        rw [List.drop_eq_getElem_cons hlt] at p1 eqn
        rw [lcD_cons, if_pos hok] at p1 eqn
        cases q : bindT tg src.items[i] (wipeE e (own.map (·.2))) with
        | none => simp only [q] at p1; exact p1.elim
        | some e3 =>
          simp only [q] at p1 eqn
          refine .inr ⟨go, fun H' => ∃ am2 S2 acc vacc, Grow am1 am2 H1 H' ∧ RelS K cl am2 S2 H' ∧ D ∈ am2.no ∧ D ∉ am2.ad ∧ H' D = some (.lst vacc) ∧ VRs K am2 H' acc vacc ∧ acc.length ≤ i + 1 ∧
              RelE K am2 H' (wipeE e (own.map (·.2))) (L2.wipe σ (own.map (·.2))) ∧
              ((lcD tg src t f (wipeE e (own.map (·.2))) src.items S1).bind fun ds S => Res.ok (DO.lst ds) S) = ((lcD tg src t f (wipeE e (own.map (·.2))) (src.items.drop (i + 1)) S2).bind fun ds S => .ok (.lst (acc ++ ds)) S),
            fun H' hN => ⟨src.items.length - (i + 1), by omega, rfl, hlt, hN⟩, fun x H3 hy => ?_⟩
          obtain ⟨am3, g3, rs3, rv⟩ := yld x H3 hy
          refine ⟨am3, _, S2, _, e3, rs3, re2.mono g3, rv, q, fun σ3 re3 b3 => ⟨?_, ?_⟩⟩
          · rw [b3.wipe hsl]
            -- wiping twice
            apply List.ext_getElem?
            intro j
            simp only [wipe_get, wipe_length]
            by_cases hj : j ∈ own.map (·.2)
            · simp only [if_pos hj]
            · simp only [if_neg hj]
          · -- the test
            cases q2 : t e3 S2 with
            | exc c S => simp only [q2, nox, Res.bind_bad] at p1; exact p1.elim
            | bad => simp only [q2, nox, Res.bind_bad] at p1; exact p1.elim
            | ok b S4 =>
              simp only [q2, nox, Res.bind_ok] at p1 eqn
              have hDs : ∃ o, H2 D = some o := ⟨_, hacc⟩
              refine ⟨am3, e3, S2, rs3, re3, ?_⟩
              rw [q2]
              intro am4 k H4 g4 rs4 rk
              have rk : b = k := rk
              subst rk
              have g24 := g3.trans g4
              have dd4 : D ∉ am4.ad := g24.inNo hDs dd
              have keepD : ∀ {am' : AM} {H' : Hp}, Grow am2 am' H2 H' → H' D = some (.lst vacc) := fun {am' H'} g => g.keep D _ hacc dd
              cases b with
              | false =>
                rw [if_neg Bool.false_ne_true]
                rw [if_neg Bool.false_ne_true] at eqn
                exact ⟨am4, S4, acc, vacc, g2.trans g24, rs4, g24.noK D dn, dd4, keepD g24, racc.mono g24, by omega, re2.mono g24, eqn⟩
              | true =>
                rw [if_pos rfl]
                rw [if_pos rfl] at p1 eqn
                refine ⟨am4, e3, S4, rs4, re3.mono g4, ?_⟩
                cases q3 : f e3 S4 with
                | exc c S => simp only [q3, nox, Res.bind_bad] at p1; exact p1.elim
                | bad => simp only [q3, nox, Res.bind_bad] at p1; exact p1.elim
                | ok d S5 =>
                  simp only [q3, nox, Res.bind_ok] at p1 eqn
                  intro am5 y H5 g5 rs5 ry
                  have g25 := g24.trans g5
                  have dn5 := g25.noK D dn
                  have dd5 : D ∉ am5.ad := g25.inNo hDs dd
                  have hv : (vacc ++ [y]).length = (acc ++ [d]).length := by rw [List.length_append, List.length_append, racc.length] <;> rfl
                  refine ⟨vacc, keepD g25, by rw [← racc.length]; omega, am5, S5, acc ++ [d], vacc ++ [y], (g2.trans g25).own hD, rs5.own dn5 dd5, dn5, dd5, upd_same,
                    ((racc.mono g25).append (.cons ry .nil)).ext (Ext.own dn5), by rw [List.length_append]; exact Nat.succ_le_succ lacc, (re2.mono g25).ext (Ext.own dn5), ?_⟩
                  rw [eqn]
                  cases lcD tg src t f (wipeE e (own.map (·.2))) (src.items.drop (i + 1)) S5 with
                  | ok ds S6 => simp
                  | exc c S6 => rfl
                  | bad => rfl
      · have ei : i = src.items.length := by omega
        subst ei
        rw [List.drop_length] at p1
        rw [lcD_nil, if_pos hok] at p1
        simp only [Res.bind_ok, List.append_nil] at p1
        exact .inl ⟨hstop _ (Nat.le_refl _), p1 am2 D H2 (g1.trans g2) rs2 hD0 dn dd ⟨vacc, hacc, racc⟩⟩
    · exfalso
      cases hl : src.items.drop i with
      | nil => rw [hl, lcD_nil, if_neg hok] at p1; exact p1
      | cons x xs => rw [hl, lcD_cons, if_neg hok] at p1; exact p1
  · rw [if_neg hz] at p1
    exact p1.elim
variable {py : Pos}
theorem qn_lc (hc : X.calm = true) (hN : X.N.Nodup) (hi : QI cl W X tgE iter it) (ok : BlkOk X.N X.env.scope scope own) (hsl : tg.sl.all fun j => decide (j ∈ own.map (·.2)))
    (hg : ∀ (s : Shared) (H : Hp) (C : Addr) (cs : List (Str × Addr)) (fp : List Addr), QG cl (X.blk s H scope (compEnvC scope cs C X.env) fp) tgE tg) (ht : ∀ (s : Shared) (H : Hp) (C : Addr) (cs : List (Str × Addr)) (fp : List Addr), QTs cl W0 (X.blk s H scope (compEnvC scope cs C X.env) fp) ifs t)
    (he : ∀ (s : Shared) (H : Hp) (C : Addr) (cs : List (Str × Addr)) (fp : List Addr), QE cl W0 (X.blk s H scope (compEnvC scope cs C X.env) fp) elt f) (hs : ∀ x, foldedSetIterable iter X.env x = pure x := by intro _; rfl) :
    QN cl W X (.ListComp elt [⟨tgE, iter, ifs, 0⟩] scope pos) (nLc (own.map (·.2)) tg it t f) :=
  (pe_lc hc hN hi ok hg ht he hs).imp (imp_lc fun j hj => of_decide_eq_true (List.all_eq_true.mp hsl j hj))
theorem imp_set {K : PySem.W.Frag} {i : Nat} {f : Ev D} {E : Ends} {σ : L2.St} {H : Hp} (h : TDs K cl W (sSet i f) E σ H) : TD K cl W (VR K) f σ H (fun x H1 => E.nx (σ.set i (some x)) H1) :=
  let ⟨am, e, S, rs, re, p⟩ := h
  ⟨am, e, S, rs, re, (PostS.step re p).imp fun x H1 ⟨am1, S1, d, _, g1, rs1, rv, p1⟩ => p1 am1 _ H1 .refl rs1 ((re.mono g1).set i rv)⟩
/-- y = [..], on one line, y a local -/
theorem qs_setLc {i : Nat} {y : Str} {g : Ev D} (hc : X.calm = true) (hN : X.N.Nodup) (hy : X.N[i]? = some y) (hyl : X.env.scope.names.lookup y = some .local)
    (hsw : swapsWith (.ListComp elt [⟨tgE, iter, ifs, 0⟩] scope pos) (some (.Name y py)) spos.line X.env = pure true) (hi : QI cl W X tgE iter it) (ok : BlkOk X.N X.env.scope scope own) (hsl : tg.sl.all fun j => decide (j ∈ own.map (·.2)))
    (hg : ∀ (s : Shared) (H : Hp) (C : Addr) (cs : List (Str × Addr)) (fp : List Addr), QG cl (X.blk s H scope (compEnvC scope cs C X.env) fp) tgE tg) (ht : ∀ (s : Shared) (H : Hp) (C : Addr) (cs : List (Str × Addr)) (fp : List Addr), QTs cl W0 (X.blk s H scope (compEnvC scope cs C X.env) fp) ifs t)
    (he : ∀ (s : Shared) (H : Hp) (C : Addr) (cs : List (Str × Addr)) (fp : List Addr), QE cl W0 (X.blk s H scope (compEnvC scope cs C X.env) fp) elt f)
    (kind : ∀ σ H Q, TD X.K cl W (VR X.K) g σ H Q → TDN X.K cl W (nLc (own.map (·.2)) tg it t f) σ H Q) (hs : ∀ x, foldedSetIterable iter X.env x = pure x := by intro _; rfl) :
    QS cl W X (.Assign [.Name y py] (.ListComp elt [⟨tgE, iter, ifs, 0⟩] scope pos) spos) (sSet i g) :=
  (ps_setLc hc hN hy hyl hsw hi ok hg ht he hs).imp fun E σ H h => imp_lc (fun j hj => of_decide_eq_true (List.all_eq_true.mp hsl j hj)) σ H _ (kind _ _ _ (imp_set h))
end

mutual
/-- no number of the store -/
def D.gnd : D → Bool
  | .tup xs => gnds xs
  | .tpi xs => gnds xs
  | .lst xs => gnds xs
  | .fls xs => gnds xs
  | .dct xs => gndk xs
  | .ref _ => false
  | _ => true
def gnds : List D → Bool
  | [] => true
  | x :: xs => x.gnd && gnds xs
def gndk : List (Key × D) → Bool
  | [] => true
  | (_, x) :: xs => x.gnd && gndk xs
end
mutual
/-- all numbers below n -/
def D.bel (n : Nat) : D → Bool
  | .tup xs => belows n xs
  | .tpi xs => belows n xs
  | .lst xs => belows n xs
  | .fls xs => belows n xs
  | .dct xs => belowk n xs
  | .ref k => decide (k < n)
  | _ => true
def belows (n : Nat) : List D → Bool
  | [] => true
  | x :: xs => x.bel n && belows n xs
def belowk (n : Nat) : List (Key × D) → Bool
  | [] => true
  | (_, x) :: xs => x.bel n && belowk n xs
end
def DO.bel (n : Nat) : DO → Bool
  | .lst xs => belows n xs
  | .dct xs => belowk n xs
  | .ins _ fs => fs.all fun p => p.2.bel n
mutual
theorem gnd_below (n : Nat) : ∀ d : D, d.gnd = true → d.bel n = true
  | .tup xs, h => gnds_below n xs h
  | .tpi xs, h => gnds_below n xs h
  | .lst xs, h => gnds_below n xs h
  | .fls xs, h => gnds_below n xs h
  | .dct xs, h => gndk_below n xs h
  | .ref _, h => absurd h (by simp [D.gnd])
  | .non, _ => rfl
  | .bl _, _ => rfl
  | .int _, _ => rfl
  | .str _, _ => rfl
theorem gnds_below (n : Nat) : ∀ xs : List D, gnds xs = true → belows n xs = true
  | [], _ => rfl
  | x :: xs, h => by
    have h' : x.gnd = true ∧ gnds xs = true := by simpa [gnds] using h
    show (x.bel n && belows n xs) = true
    rw [gnd_below n x h'.1, gnds_below n xs h'.2]
    rfl
theorem gndk_below (n : Nat) : ∀ xs : List (Key × D), gndk xs = true → belowk n xs = true
  | [], _ => rfl
  | (k, x) :: xs, h => by
    have h' : x.gnd = true ∧ gndk xs = true := by simpa [gndk] using h
    show (x.bel n && belowk n xs) = true
    rw [gnd_below n x h'.1, gndk_below n xs h'.2]
    rfl
end
def allSome {α : Type} : List (Option α) → Option (List α)
  | [] => some []
  | some x :: xs => (allSome xs).map (x :: ·)
  | none :: _ => none
/-- what came up within a def is handed back by its data -/
def frzV (n : Nat) (S : Sto) : Nat → D → Option D
  | 0, d => if d.bel n = true then some d else none
  | f + 1, d => if d.bel n = true then some d else match d with
    | .ref k => match S[k]? with
      | some (.lst xs) => (allSome (xs.map (frzV n S f))).map .lst
      | some (.dct xs) => (allSome (xs.map fun p => (frzV n S f p.2).map fun y => (p.1, y))).map .dct
      | _ => none
    | .tup xs => (allSome (xs.map (frzV n S f))).map .tup
    | .lst xs => (allSome (xs.map (frzV n S f))).map .lst
    | .dct xs => (allSome (xs.map fun p => (frzV n S f p.2).map fun y => (p.1, y))).map .dct
    | _ => none
/-- what stood keeps within what stood -/
def Clo (S S' : Sto) : Prop := S.length ≤ S'.length ∧ ∀ (k : Nat) (o : DO), k < S.length → S'[k]? = some o → S[k]? = some o ∨ o.bel S.length = true
noncomputable instance (S S' : Sto) : Decidable (Clo S S') := Classical.propDecidable _
/-- frz: by its data; keep: all stays; new: one new object comes along -/
inductive Md where
  | frz | keep | new
noncomputable def fin (m : Md) (S : Sto) (d : D) (S' : Sto) : Res D := match m with
  | .keep => .ok d S'
  | .frz => if Clo S S' then (opt (frzV S.length S' 6 d) (S'.take S.length)) else .bad
  | .new => match d with
    | .ref k => if Clo S S' ∧ S.length ≤ k then match S'[k]? with
        | some o => if o.bel S.length = true then .ok (.ref S.length) (S'.take S.length ++ [o]) else .bad
        | none => .bad
      else .bad
    | _ => .bad
noncomputable def retD (m : Md) (S : Sto) (r : SRes) : Res D := match r with
  | .ret d S' => fin m S d S'
  | .next _ S' => fin m S .non S'
  | .exc c _ S' => match m with
    | .keep => .exc c S'
    | _ => if Clo S S' then .exc c (S'.take S.length) else .bad
  | _ => .bad
def startE (n : Nat) (ds : List D) : En := ds.map some ++ List.replicate (n - ds.length) none
/-- a def by its body: n names -/
noncomputable def runD (m : Md) (n : Nat) (body : Stm) (ds : List D) (S : Sto) : Res D := retD m S (body (startE n ds) S)
section
variable {K : PySem.W.Frag} {cl : Str → Addr} {W : WX} {am am' : AM} {H H' : Hp} {S S' : Sto} {σ : L2.St}
mutual
theorem VR.bel : ∀ {d : D} {v : V}, VR K am H d v → d.bel am.ad.length = true
  | _, _, .non => rfl
  | _, _, .bl _ => rfl
  | _, _, .int _ => rfl
  | _, _, .str _ => rfl
  | _, _, .tup _ hs => VRs.bel hs
  | _, _, .tpi _ hs => VRs.bel hs
  | _, _, .lst _ _ hs => VRs.bel hs
  | _, _, .fls _ hs => VRs.bel hs
  | _, _, .dct _ _ hs => VRk.bel hs
  | _, _, .ref h => decide_eq_true (List.getElem?_eq_some_iff.mp h).1
theorem VRs.bel : ∀ {ds : List D} {vs : List V}, VRs K am H ds vs → belows am.ad.length ds = true
  | _, _, .nil => rfl
  | _, _, .cons h t => by
    show (D.bel _ _ && belows _ _) = true
    rw [VR.bel h, VRs.bel t]
    rfl
theorem VRk.bel : ∀ {ds : List (Key × D)} {vs : List (Key × V)}, VRk K am H ds vs → belowk am.ad.length ds = true
  | _, _, .nil => rfl
  | _, _, .cons h t => by
    show (D.bel _ _ && belowk _ _) = true
    rw [VR.bel h, VRk.bel t]
    rfl
end
theorem VRf_bel : ∀ {fs : List (Str × D)} {vs : List (Str × V)}, VRf K am H fs vs → (fs.all fun p => p.2.bel am.ad.length) = true
  | _, _, .nil => rfl
  | _, _, .cons h t => by
    rw [List.all_cons, VRf_bel t, h.2.bel]
    rfl
theorem OR.bel {a : Addr} {o : DO} (h : OR K cl am H a o) : o.bel am.ad.length = true := by
  cases o with
  | lst xs => obtain ⟨vs, _, h⟩ := h; exact h.bel
  | dct xs => obtain ⟨vs, _, h⟩ := h; exact h.bel
  | ins c fs =>
    obtain ⟨dx, vs, _, h⟩ := h
    exact VRf_bel h
/-- the store cut back -/
def AM.cut (am : AM) (n : Nat) (x : List Addr) (nd : am.ad.Nodup) : AM := ⟨am.ad.take n, am.no.filter fun b => decide (b ∉ am.ad.drop n ∨ b ∈ x), fun a ha => List.mem_filter.mpr ⟨am.sub a (List.mem_of_mem_take ha), decide_eq_true (.inl fun z => by
  have q : (am.ad.take n ++ am.ad.drop n).Nodup := by rw [List.take_append_drop]; exact nd
  exact (List.nodup_append.mp q).2.2 a ha a z rfl)⟩⟩
theorem cut_not {nd : am.ad.Nodup} {n : Nat} {x : List Addr} {a : Addr} (h : a ∉ am.no) : a ∉ (am.cut n x nd).no := fun z => h (List.mem_filter.mp z).1
mutual
theorem VR.cut {n : Nat} {x : List Addr} (nd : am.ad.Nodup) : ∀ {d : D} {v : V}, VR K am H d v → d.bel n = true → VR K (am.cut n x nd) H d v
  | _, _, .non, _ => .non
  | _, _, .bl b, _ => .bl b
  | _, _, .int i, _ => .int i
  | _, _, .str x, _ => .str x
  | _, _, .tup h hs, q => .tup (by
      rcases h with ⟨o, h, d, n⟩ | h
      · exact .inl ⟨o, h, d, cut_not n⟩
      · exact .inr h) (VRs.cut nd hs q)
  | _, _, .tpi h hs, q => .tpi ⟨h.1, cut_not h.2⟩ (VRs.cut nd hs q)
  | _, _, .lst h n hs, q => .lst h (cut_not n) (VRs.cut nd hs q)
  | _, _, .fls h hs, q => .fls (by
      rcases h with ⟨h, n⟩ | h
      · exact .inl ⟨h, cut_not n⟩
      · exact .inr h) (VRs.cut nd hs q)
  | _, _, .dct h n hs, q => .dct h (cut_not n) (VRk.cut nd hs q)
  | _, _, .ref h, q => .ref (by
      show (am.ad.take n)[_]? = some _
      rw [List.getElem?_take_of_lt (of_decide_eq_true q)]
      exact h)
theorem VRs.cut {n : Nat} {x : List Addr} (nd : am.ad.Nodup) : ∀ {ds : List D} {vs : List V}, VRs K am H ds vs → belows n ds = true → VRs K (am.cut n x nd) H ds vs
  | _, _, .nil, _ => .nil
  | _, _, .cons h t, q => .cons (VR.cut nd h (Bool.and_eq_true_iff.mp q).1) (VRs.cut nd t (Bool.and_eq_true_iff.mp q).2)
theorem VRk.cut {n : Nat} {x : List Addr} (nd : am.ad.Nodup) : ∀ {ds : List (Key × D)} {vs : List (Key × V)}, VRk K am H ds vs → belowk n ds = true → VRk K (am.cut n x nd) H ds vs
  | _, _, .nil, _ => .nil
  | _, _, .cons h t, q => .cons (VR.cut nd h (Bool.and_eq_true_iff.mp q).1) (VRk.cut nd t (Bool.and_eq_true_iff.mp q).2)
end
theorem VRf_cut {n : Nat} {x : List Addr} (nd : am.ad.Nodup) : ∀ {fs : List (Str × D)} {vs : List (Str × V)}, VRf K am H fs vs → (fs.all fun p => p.2.bel n) = true → VRf K (am.cut n x nd) H fs vs
  | _, _, .nil, _ => .nil
  | _, _, .cons h t, q => by
    rw [List.all_cons, Bool.and_eq_true] at q
    exact .cons ⟨h.1, h.2.cut nd q.1⟩ (VRf_cut nd t q.2)
theorem OR.cut {n : Nat} {x : List Addr} (nd : am.ad.Nodup) {a : Addr} {o : DO} (h : OR K cl am H a o) (q : o.bel n = true) : OR K cl (am.cut n x nd) H a o := by
  cases o with
  | lst xs => obtain ⟨vs, h1, h⟩ := h; exact ⟨vs, h1, h.cut nd q⟩
  | dct xs => obtain ⟨vs, h1, h⟩ := h; exact ⟨vs, h1, h.cut nd q⟩
  | ins c fs =>
    obtain ⟨dx, vs, h1, h⟩ := h
    exact ⟨dx, vs, h1, VRf_cut nd h q⟩
theorem Grow.cut {x : List Addr} (g : Grow am am' H H') (rs : RelS K cl am S H) (nd : am'.ad.Nodup) : Grow am (am'.cut S.length x nd) H H' := by
  obtain ⟨r, e⟩ := g.pre
  have et : am'.ad.take S.length = am.ad := by rw [e, ← rs.len, List.take_left]
  refine ⟨⟨[], by show am'.ad.take S.length = _; rw [et, List.append_nil]⟩, fun b hb nb => ?_, fun b hb nb => g.freshNo b (List.mem_filter.mp hb).1 nb, fun b hb => List.mem_filter.mpr ⟨g.noK b hb, decide_eq_true (.inl fun z => ?_)⟩, g.keep⟩
  · have hb : b ∈ am'.ad.take S.length := hb
    rw [et] at hb
    exact absurd hb nb
  · have q : (am'.ad.take S.length ++ am'.ad.drop S.length).Nodup := by rw [List.take_append_drop]; exact nd
    have nb : b ∉ am.ad := fun w => (List.nodup_append.mp q).2.2 b (by rw [et]; exact w) b z rfl
    obtain ⟨o, eo⟩ := rs.there b hb
    have := g.fresh b (List.mem_of_mem_drop z) nb
    rw [eo] at this; cases this
theorem RelS.cut {x : List Addr} (g : Grow am am' H H') (rs : RelS K cl am S H) (rs' : RelS K cl am' S' H') (hc : Clo S S') : RelS K cl (am'.cut S.length x rs'.nd) (S'.take S.length) H' := by
  refine ⟨?_, rs'.nd.sublist (List.take_sublist _ _), fun k o a h1 h2 => ?_, fun a ha => rs'.there a (List.mem_filter.mp ha).1⟩
  · show (am'.ad.take S.length).length = _
    rw [List.length_take, List.length_take, rs'.len]
  · have hk : k < S.length := by
      have := (List.getElem?_eq_some_iff.mp h1).1
      rw [List.length_take] at this
      omega
    rw [List.getElem?_take_of_lt hk] at h1
    have h2 : (am'.ad.take S.length)[k]? = some a := h2
    rw [List.getElem?_take_of_lt hk] at h2
    refine (rs'.ob k o a h1 h2).cut rs'.nd ?_
    rcases hc.2 k o hk h1 with q | q
    · obtain ⟨b, hb, ho⟩ := rs.has q
      have := ho.bel
      rw [rs.len] at this
      exact this
    · exact q
theorem allSome_VRs {am1 : AM} {f : D → Option D} (hf : ∀ d v d', VR K am H d v → f d = some d' → VR K am1 H d' v) : ∀ {xs : List D} {vs : List V} {ys : List D}, VRs K am H xs vs → allSome (xs.map f) = some ys → VRs K am1 H ys vs
  | _, _, _, .nil, h => by cases h; exact .nil
  | _, _, ys, .cons (d := d) (ds := ds) h t, q => by
    rw [List.map_cons] at q
    cases e : f d with
    | none => rw [e] at q; cases q
    | some d' =>
      rw [e] at q
      simp only [allSome] at q
      cases e2 : allSome (ds.map f) with
      | none => rw [e2] at q; cases q
      | some ys' =>
        rw [e2] at q
        cases q
        exact .cons (hf _ _ _ h e) (allSome_VRs hf t e2)
theorem allSome_VRk {am1 : AM} {f : D → Option D} (hf : ∀ d v d', VR K am H d v → f d = some d' → VR K am1 H d' v) : ∀ {xs : List (Key × D)} {vs : List (Key × V)} {ys : List (Key × D)}, VRk K am H xs vs → allSome (xs.map fun p => (f p.2).map fun y => (p.1, y)) = some ys → VRk K am1 H ys vs
  | _, _, _, .nil, h => by cases h; exact .nil
  | _, _, ys, .cons (k := k) (d := d) (ds := ds) h t, q => by
    rw [List.map_cons] at q
    cases e : f d with
    | none => simp only [e] at q; cases q
    | some d' =>
      simp only [e, Option.map_some, allSome] at q
      cases e2 : allSome (ds.map fun p => (f p.2).map fun y => (p.1, y)) with
      | none => rw [e2] at q; cases q
      | some ys' =>
        rw [e2] at q
        cases q
        exact .cons (hf _ _ _ h e) (allSome_VRk hf t e2)
theorem VR.frz {n : Nat} (rs : RelS K cl am S H) : ∀ (f : Nat) (d : D) (v : V) (d' : D), VR K am H d v → frzV n S f d = some d' → VR K (am.cut n [] rs.nd) H d' v
  | 0, d, v, d', h, q => by
    unfold frzV at q
    by_cases hb : d.bel n = true
    · rw [if_pos hb] at q
      cases q
      exact h.cut rs.nd hb
    · rw [if_neg hb] at q
      cases q
  | f + 1, d, v, d', h, q => by
    unfold frzV at q
    by_cases hb : d.bel n = true
    · rw [if_pos hb] at q
      cases q
      exact h.cut rs.nd hb
    · rw [if_neg hb] at q
      have ih := VR.frz (n := n) rs f
      cases h with
      | @ref k a h1 =>
        simp only at q
        have hk : ¬ k < n := fun z => hb (decide_eq_true z)
        have na : a ∉ (am.cut n [] rs.nd).no := fun z => by
          rcases of_decide_eq_true (List.mem_filter.mp z).2 with z | z
          · refine z ?_
            obtain ⟨hl, e⟩ := List.getElem?_eq_some_iff.mp h1
            rw [List.mem_drop_iff_getElem]
            exact ⟨k - n, by omega, by simp only [show n + (k - n) = k by omega]; exact e⟩
          · cases z
        cases e : S[k]? with
        | none => rw [e] at q; cases q
        | some o =>
          rw [e] at q
          cases o with
          | lst xs =>
            obtain ⟨vs, h2, h3⟩ := rs.ob k _ a e h1
            simp only at q
            cases e2 : allSome (xs.map (frzV n S f)) with
            | none => rw [e2] at q; cases q
            | some ys =>
              rw [e2] at q
              cases q
              exact .lst h2 na (allSome_VRs ih h3 e2)
          | dct xs =>
            obtain ⟨vs, h2, h3⟩ := rs.ob k _ a e h1
            simp only at q
            cases e2 : allSome (xs.map fun p => (frzV n S f p.2).map fun y => (p.1, y)) with
            | none => rw [e2] at q; cases q
            | some ys =>
              rw [e2] at q
              cases q
              exact .dct h2 na (allSome_VRk ih h3 e2)
          | ins c fs => cases q
      | @tup a vs xs h1 h3 =>
        simp only at q
        cases e2 : allSome (xs.map (frzV n S f)) with
        | none => rw [e2] at q; cases q
        | some ys =>
          rw [e2] at q
          cases q
          exact .tup (by
            rcases h1 with ⟨o, h1, d1, n1⟩ | h1
            · exact .inl ⟨o, h1, d1, cut_not n1⟩
            · exact .inr h1) (allSome_VRs ih h3 e2)
      | @lst a vs xs h1 n1 h3 =>
        simp only at q
        cases e2 : allSome (xs.map (frzV n S f)) with
        | none => rw [e2] at q; cases q
        | some ys =>
          rw [e2] at q
          cases q
          exact .lst h1 (cut_not n1) (allSome_VRs ih h3 e2)
      | @dct a vs xs h1 n1 h3 =>
        simp only at q
        cases e2 : allSome (xs.map fun p => (frzV n S f p.2).map fun y => (p.1, y)) with
        | none => rw [e2] at q; cases q
        | some ys =>
          rw [e2] at q
          cases q
          exact .dct h1 (cut_not n1) (allSome_VRk ih h3 e2)
      | _ => cases q
/-- what is handed back is what is promised -/
theorem fin_ok {m : Md} {d : D} {v : V} {Q : VK} (rs : RelS K cl am S H) (p : Post K cl W σ (VR K) am H (fin m S d S') Q) (g : Grow am am' H H') (rs' : RelS K cl am' S' H') (rv : VR K am' H' d v) : Q v H' := by
  cases m with
  | keep => exact p am' v H' g rs' rv
  | frz =>
    simp only [fin] at p
    by_cases hc : Clo S S'
    · rw [if_pos hc] at p
      cases e : frzV S.length S' 6 d with
      | none => rw [e] at p; exact p.elim
      | some d' =>
        rw [e] at p
        exact p _ v H' (g.cut (x := []) rs rs'.nd) (RelS.cut g rs rs' hc) (VR.frz rs' 6 d v d' rv e)
    · rw [if_neg hc] at p
      exact p.elim
  | new =>
    cases rv with
    | @ref k a h1 =>
      simp only [fin] at p
      by_cases hc : Clo S S' ∧ S.length ≤ k
      · rw [if_pos hc] at p
        cases e : S'[k]? with
        | none => rw [e] at p; exact p.elim
        | some o =>
          rw [e] at p
          simp only at p
          by_cases hb : o.bel S.length = true
          · rw [if_pos hb] at p
            -- the object at a comes along, at its new number
            have hm : a ∈ am'.ad := List.mem_of_getElem? h1
            have na : a ∉ am.ad := fun z => by
              obtain ⟨r, er⟩ := g.pre
              obtain ⟨j, hj, ej⟩ := List.mem_iff_getElem.mp z
              have h2 : am'.ad[j]? = some a := by rw [er, List.getElem?_append_left hj, List.getElem?_eq_getElem hj, ej]
              have := nd_ix rs'.nd h1 h2
              rw [rs.len] at hj
              omega
            have hH : H a = none := g.fresh a hm na
            have gc : Grow am (am'.cut S.length [a] rs'.nd) H H' := g.cut rs rs'.nd
            have rc : RelS K cl (am'.cut S.length [a] rs'.nd) (S'.take S.length) H' := RelS.cut g rs rs' hc.1
            have hno : a ∈ (am'.cut S.length [a] rs'.nd).no := List.mem_filter.mpr ⟨am'.sub a hm, decide_eq_true (.inr (by simp))⟩
            have had : a ∉ (am'.cut S.length [a] rs'.nd).ad := fun z => na (by
              obtain ⟨r, er⟩ := g.pre
              have z : a ∈ am'.ad.take S.length := z
              rw [er, ← rs.len, List.take_left] at z
              exact z)
            have ho := (rs'.ob k o a e h1).cut (x := [a]) rs'.nd hb
            refine p _ (.ref a) H' (gc.push hno hH) (rc.push hno had ho) (.ref ?_)
            show ((am'.cut S.length [a] rs'.nd).ad ++ [a])[S.length]? = some a
            have hl : (am'.cut S.length [a] rs'.nd).ad.length = S.length := by
              rw [rc.len, List.length_take]
              have := hc.1.1
              omega
            rw [List.getElem?_append_right (by rw [hl]; exact Nat.le_refl _), hl, Nat.sub_self]
            rfl
          · rw [if_neg hb] at p
            exact p.elim
      · rw [if_neg hc] at p
        exact p.elim
    | _ => exact p.elim
end
end Pu
set_option Elab.async false
set_option linter.all false
set_option maxRecDepth 100000
namespace Pu
open PySem PySem.Spec PyProof.Rows L2

def SpD (K : PySem.W.Frag) (cl : Str → Addr) (n : Nat) (F : List D → Sto → Res D) : Sp := fun vs H Q E =>
  ∃ am ds S, ds.length = n ∧ RelS K cl am S H ∧ VRs K am H ds vs ∧ Post K cl (fun c d _ H => E c d H) [] (VR K) am H (F ds S) Q
/-- a def of the text stands where its name says -/
structure DefIn (K : PySem.W.Frag) (mg : Str → Option Value) (x : Str) (st : Stmt) (ps : List Str) : Prop where
  ex : ∃ f fd, Fun K x x st f fd ∧ mg x = some (.ref f) ∧ ∀ us : List Value, us.length = ps.length → bindArgs fd ⟨us, []⟩ = pure (ps.zip us)
structure DefOk (P : Program) (w : World) (K : PySem.W.Frag) (mg : Str → Option Value) (base : Heap) (cl : Str → Addr) (x : Str) (k : Nat) (ps : List Str) (F : List D → Sto → Res D) : Prop where
  ex : ∃ f fd, FnOk P w K mg base (L2N.CX P w) k f fd ps (SpD K cl ps.length F) ∧ mg x = some (.ref f) ∧ PySem.W.keepIn K (.ref f) = true ∧ (∀ us : List Value, us.length = ps.length → bindArgs fd ⟨us, []⟩ = pure (ps.zip us)) ∧
    ∃ (oc : Value) (od : Option Addr) (osl : Array (Option Value)), K.lookup f = some ⟨oc, od, .func fd, osl⟩
section
variable {P : Program} {w : World} {K : PySem.W.Frag} {mg : Str → Option Value} {base : Heap} {cl : Str → Addr}
theorem DefOk.mono {x : Str} {k j : Nat} {ps : List Str} {F : List D → Sto → Res D} (d : DefOk P w K mg base cl x k ps F) (h : k ≤ j) : DefOk P w K mg base cl x j ps F :=
  let ⟨f, fd, a, b⟩ := d.ex
  ⟨f, fd, a.mono h, b⟩
theorem startE_rel {am : AM} {H : Hp} {ds : List D} {vs : List V} {N : List Str} (h : VRs K am H ds vs) : RelE K am H (startE N.length ds) (L2.start N vs) := by
  refine ⟨?_, fun i d hd => ?_⟩
  · unfold startE L2.start
    simp [h.length]
  · unfold startE at hd
    unfold L2.start
    by_cases hi : i < ds.length
    · rw [List.getElem?_append_left (by simpa using hi), List.getElem?_map] at hd
      cases e : ds[i]? with
      | none => rw [e] at hd; cases hd
      | some z =>
        rw [e] at hd
        cases hd
        obtain ⟨v, hv, rv⟩ := h.get e
        refine ⟨v, ?_, rv⟩
        rw [List.getElem?_append_left (by rw [List.length_map, ← h.length]; exact hi), List.getElem?_map, hv]
        rfl
    · rw [List.getElem?_append_right (by simpa using hi), List.getElem?_replicate] at hd
      split at hd <;> cases hd
theorem qf_mk {k : Nat} {N ps : List Str} {st : Stmt} {x qual : Str} {f : Addr} {fd : FuncData} {m : Md} {body : Stm} (Fn : Fun K x qual st f fd) (Sc : FnScope N ps (defScope st))
    (hb : ∀ (cdv : Value) (A : Around) (outer : List PySem.Env) (s : Shared) (H : Hp) (E : XK), Room k (A.deeper (envOfC qual (defScope st) s.heap.objs.size f cdv)) →
      QB cl (fun c d _ H => E c d H) (cxOf (L2N.CX P w) P w K mg base N qual (defScope st) f cdv A outer s H E) (defBody st) body) :
    FnOk P w K mg base (L2N.CX P w) (k + 1) f fd ps (SpD K cl ps.length (runD m N.length body)) := by
  obtain ⟨oc, od, kV, doc, pm, an, cdv, ct, osl, rfl, lk, hcd⟩ := Fn.ex
  refine fn_of lk hcd Sc (fun vs H Q E h => ?_) (fun A outer s H vs Q E hr h => ⟨_, hb cdv A outer s H E hr, ?_⟩)
  · obtain ⟨am, ds, S, hl, _, hv, _⟩ := h
    rw [← hv.length, hl]
  · obtain ⟨am, ds, S, hl, rs, hv, p⟩ := h
    refine ⟨am, startE N.length ds, S, rs, startE_rel hv, ?_⟩
    unfold runD at p
    cases q : body (startE N.length ds) S with
    | next e S' =>
      rw [q] at p
      exact fun am' σ H' g rs' re' => fin_ok rs p g rs' .non
    | ret d S' =>
      rw [q] at p
      exact fun am' v H' g rs' rv => fin_ok rs p g rs' rv
    | brk e S' => rw [q] at p; exact p.elim
    | cnt e S' => rw [q] at p; exact p.elim
    | exc c e S' =>
      rw [q] at p
      intro am' σ H' g rs' re'
      have other : m ≠ .keep → Post K cl (fun c d _ H => E c d H) [] (VR K) am H (if Clo S S' then (.exc c (S'.take S.length) : Res D) else .bad) Q → E (.ref (cl c)) none H' := fun _ p => by
        by_cases hc : Clo S S'
        · rw [if_pos hc] at p
          exact p _ H' (g.cut (x := []) rs rs'.nd) (RelS.cut g rs rs' hc)
        · rw [if_neg hc] at p
          exact p.elim
      cases m with
      | keep => exact p am' H' g rs'
      | frz => exact other (fun z => nomatch z) p
      | new => exact other (fun z => nomatch z) p
    | bad => rw [q] at p; exact p.elim
theorem def_ok {k : Nat} {N ps : List Str} {st : Stmt} {x : Str} {m : Md} {body : Stm} (I : DefIn K mg x st ps) (Sc : FnScope N ps (defScope st))
    (hb : ∀ (f : Addr) (cdv : Value) (A : Around) (outer : List PySem.Env) (s : Shared) (H : Hp) (E : XK), Room k (A.deeper (envOfC x (defScope st) s.heap.objs.size f cdv)) →
      QB cl (fun c d _ H => E c d H) (cxOf (L2N.CX P w) P w K mg base N x (defScope st) f cdv A outer s H E) (defBody st) body) :
    DefOk P w K mg base cl x (k + 1) ps (runD m N.length body) := by
  obtain ⟨f, fd, Fn, hm, hbd⟩ := I.ex
  obtain ⟨oc, od, kV, doc, pm, an, cdv, ct, osl, e, lk, hcd⟩ := Fn.ex
  exact ⟨f, fd, qf_mk Fn Sc (hb f), hm, Fn.kp, hbd, oc, od, osl, lk⟩
/-- the law's own def, for the end -/
theorem law_fn {k : Nat} {x : Str} {F : List D → Sto → Res D} {st : Stmt} {ps : List Str} {fa : Addr} (I : DefIn K mg x st ps) (hfa : mg x = some (.ref fa)) : ∃ fd : FuncData, (∀ us : List Value, us.length = ps.length → bindArgs fd ⟨us, []⟩ = pure (ps.zip us)) ∧
    ∀ base : Heap, DefOk P w K mg base cl x k ps F → FnOk P w K mg base (L2N.CX P w) k fa fd ps (SpD K cl ps.length F) := by
  obtain ⟨f, fd, Fn, hm, hbd⟩ := I.ex
  obtain ⟨oc, od, kV, doc, pm, an, cdv, ct, osl, e, lk, hcd⟩ := Fn.ex
  cases hfa.symm.trans hm
  refine ⟨fd, hbd, fun base G => ?_⟩
  obtain ⟨f2, fd2, Fk, hm2, _, _, oc2, od2, osl2, lk2⟩ := G.ex
  cases hfa.symm.trans hm2
  rw [lk] at lk2
  cases lk2
  exact Fk
theorem defIn_mk {h : Heap} {x : Str} {st : Stmt} {ps : List Str} {f : Addr} {oc : Value} {od an : Option Addr} {osl : Array (Option Value)} {kV doc pm cdv ct : Value} (X : K.In h) (G : h.Ns mainGlobals mg)
    (a : PySem.W.nsIn K mainGlobals x = some (some (.ref f))) (l : K.lookup f = some ⟨oc, od, .func (PySem.W.fnOf x x (defArgs st) (defBody st) (defScope st) .none kV doc pm an cdv ct), osl⟩) (c : PySem.W.codeIn K cdv x = true) (k : PySem.W.keepIn K (.ref f) = true)
    (hb : ∀ (kV doc pm : Value) (an : Option Addr) (cdv ct : Value) (us : List Value), us.length = ps.length → bindArgs (PySem.W.fnOf x x (defArgs st) (defBody st) (defScope st) .none kV doc pm an cdv ct) ⟨us, []⟩ = pure (ps.zip us)) : DefIn K mg x st ps :=
  ⟨f, _, fun_mk l c k, PySem.W.mg_of X G a, hb kV doc pm an cdv ct⟩
end
def eFn (F : List D → Sto → Res D) (fs : List (Ev D)) : Ev D := fun e S => (eArgs fs e S).bind F
section
variable {cl : Str → Addr} {W : WX} {X : Cx} {a b c : Expr} {es : List Expr} {f g h : Ev D} {fs : List (Ev D)} {pos p : Pos} {x : Str}
theorem qe_fn {k : Nat} {ps : List Str} {F : List D → Sto → Res D} (G : DefOk X.prog X.w X.K X.mg X.base cl x k ps F) (hr : Room k X.A) (hg : Gl X x) (tk : L2N.Takes X W) (ha : QA cl W X (a :: es) (eArgs fs)) (hn : fs.length = ps.length := by rfl) (hdb : (x == ("__debug__" : Str)) = false := by decide)
    (he : starEach (a :: es) X.env = (false, eval a X.env) :: starEach es X.env := by rfl) (hpl : (backTo pos (starEach es X.env)).any (·.1) = false := by rfl) : QE cl W X (.Call (.Name x p) (a :: es) [] pos) (eFn F fs) := by
  obtain ⟨ff, fd, Fk, hm, hk, hbd, _⟩ := G.ex
  refine (pe_callS Fk hr hg hm hk (.all hbd) (fun σ => L2N.passAt tk σ) ha hdb he hpl).imp fun σ H Q ⟨am, e, S, rs, re, p⟩ => ?_
  exact ⟨am, e, S, rs, re, (Post.step p).imp fun xs H1 ⟨am1, S1, ds, ee, g1, rs1, rvs, p1⟩ => ⟨am1, ds, S1, by rw [eArgs_len ee, hn], rs1, rvs, p1⟩⟩
end

def keyOf : D → Option Key
  | .int i => some (.inl i)
  | .str x => some (.inr x)
  | _ => none
def getK (kvs : List (Key × D)) (k : Key) : Option D := (kvs.find? fun kv => decide (kv.1 = k)).map (·.2)
def putD (kvs : List (Key × D)) (k : Key) (v : D) : List (Key × D) := if (kvs.any fun kv => decide (kv.1 = k)) = true then kvs.map (fun kv => if kv.1 = k then (kv.1, v) else kv) else kvs ++ [(k, v)]
/-- o[i]: of a list, a tuple, a text, a dict -/
def ixD (d i : D) (S : Sto) : Res D := match dcOf S d with
  | some kvs => match keyOf i with
    | some k => opt (getK kvs k) S
    | none => .bad
  | none => match i with
    | .int j => match d with
      | .str x => if x.length ≤ sizeLine then opt ((atI x.cps.toList j).map fun c => .str ⟨#[c]⟩) S else .bad
      | d => match sqOf S d with
        | some xs => opt (atI xs j) S
        | none => .bad
    | _ => .bad
section
variable {K : PySem.W.Frag} {cl : Str → Addr} {am : AM} {H : Hp} {S : Sto}
theorem keyOf_ok {d : D} {v : V} {k : Key} (h : VR K am H d v) (e : keyOf d = some k) : v = kV k := by
  cases h with
  | int i => cases e; rfl
  | str x => cases e; rfl
  | _ => cases e
theorem VRk.get : ∀ {ds : List (Key × D)} {vs : List (Key × V)} (k : Key), VRk K am H ds vs → (getK ds k = none ∧ valV vs k = none) ∨ ∃ d v, getK ds k = some d ∧ valV vs k = some v ∧ VR K am H d v
  | _, _, k, .nil => .inl ⟨rfl, rfl⟩
  | _, _, k, .cons (k := k') (d := d) (v := v) h t => by
    by_cases e : k' = k
    · subst e
      exact .inr ⟨d, v, by simp [getK], by simp [valV], h⟩
    · have ih := VRk.get k t
      unfold getK valV at ih ⊢
      rw [List.find?_cons_of_neg (by simpa using e), List.find?_cons_of_neg (by simpa using e)]
      exact ih
theorem VRk.any {ds : List (Key × D)} {vs : List (Key × V)} (k : Key) (h : VRk K am H ds vs) : (ds.any fun kv => decide (kv.1 = k)) = (vs.any fun kv => decide (kv.1 = k)) := by
  induction ds generalizing vs with
  | nil => cases h; rfl
  | cons p ds ih =>
    cases h with
    | cons h t => rw [List.any_cons, List.any_cons, ih t]
theorem VRk.map {ds : List (Key × D)} {vs : List (Key × V)} (k : Key) {d : D} {v : V} (hv : VR K am H d v) : VRk K am H ds vs → VRk K am H (ds.map fun kv => if kv.1 = k then (kv.1, d) else kv) (vs.map fun kv => if kv.1 = k then (kv.1, v) else kv) := fun h => by
  induction ds generalizing vs with
  | nil => cases h; exact .nil
  | cons p ds ih =>
    cases h with
    | @cons k' d' v' ds vs h t =>
      rw [List.map_cons, List.map_cons]
      by_cases e : k' = k
      · simp only [e, if_true]
        exact .cons hv (ih t)
      · simp only [if_neg e]
        exact .cons h (ih t)
theorem VRk.append : ∀ {ds es : List (Key × D)} {vs us : List (Key × V)}, VRk K am H ds vs → VRk K am H es us → VRk K am H (ds ++ es) (vs ++ us)
  | _, _, _, _, .nil, h => h
  | _, _, _, _, .cons h t, h' => .cons h (VRk.append t h')
theorem VRk.put {ds : List (Key × D)} {vs : List (Key × V)} (k : Key) {d : D} {v : V} (h : VRk K am H ds vs) (hv : VR K am H d v) : VRk K am H (putD ds k d) (putK vs k v) := by
  unfold putD putK
  rw [h.any k]
  by_cases e : (vs.any fun kv => decide (kv.1 = k)) = true
  · rw [if_pos e, if_pos e]
    exact h.map k hv
  · rw [if_neg e, if_neg e]
    exact h.append (.cons hv .nil)
theorem VRk.length : ∀ {ds : List (Key × D)} {vs : List (Key × V)}, VRk K am H ds vs → ds.length = vs.length
  | _, _, .nil => rfl
  | _, _, .cons _ t => by rw [List.length_cons, List.length_cons, VRk.length t]
theorem atI_some {ds : List D} {vs : List V} {j : Int} {d : D} (h : VRs K am H ds vs) (e : atI ds j = some d) : ∃ v, atI vs j = some v ∧ VR K am H d v := by
  unfold atI at e ⊢
  rw [← h.length]
  cases q : ixN ds.length j with
  | none => rw [q] at e; cases e
  | some n => rw [q] at e; exact h.get e
end
section
variable {cl : Str → Addr} {W : WX} {X : Cx} {a b c : Expr} {es : List Expr} {f g h : Ev D} {fs : List (Ev D)} {pos p : Pos} {x : Str}
def rKey : R2 := fun x y H Q => ∃ a v, x = .ref a ∧ DGet H a y (some v) ∧ Q v H
theorem ix_key (hu : X.A.units + 1 < cLine) : IxR X rKey := by
  intro value slice pins s σ H x y v u Q I rx ry h hs
  obtain ⟨a, vv, rfl, g, q⟩ := h
  cases rx
  have hT := dict_typeIs I g
  unfold subscriptTail
  refine wpAny_bind ?_
  rw [getitemInPython_of_ne hT.not_modules]
  refine wpAny_bind (wpAny_specialOf hT PySem.F.slot_dict_getitem.lookup ?_)
  have fin : wpAny (model X.prog X.w) X.A (subscripted slice false (.ref a) u) (fun r s₃ => wpAny (model X.prog X.w) X.A (letTemporaryGo value (.ref a) r >>= fun _ => pure r) (EP X pins σ Q) X.xe s₃) X.xe s := by
    rw [hs]
    exact wpAny_operating (wpAny_mono (d_getItem hu I g ry fun w' s' I' rw' => (⟨vv, H, I', rw', q⟩ : EP X pins σ Q w' s')) (fun r s₃ h₃ => wpAny_bind (wpAny_letTemporaryGo (wpAny_pure h₃))) fun _ _ x => x)
  first
    | exact wpAny_pure (wpAny_bind fin)
    | exact wpAny_bind (wpAny_pure (wpAny_bind fin))
    | exact wpAny_bind fin
theorem qe_ix {k : Nat} (hr : Room k X.A) (ha : QE cl W X a f) (hb : QE cl W X b g) (hs : PlainIx b := by intro _ _; rfl) : QE cl W X (.Subscript a b pos) (e2 ixD f g) :=
  (pe_ix (ix_seq.or (ix_key (hu_of hr))) ha hb hs).imp (imp_2 fun W σ am S H d e v u Q rs h1 h2 p => by
    unfold ixD at p
    cases q : dcOf S d with
    | some kvs =>
      rw [q] at p
      obtain ⟨a, vs, ev, r1, hk⟩ := dcOf_ok rs h1 q
      simp only at p
      cases q2 : keyOf e with
      | none => rw [q2] at p; exact p.elim
      | some k =>
        rw [q2] at p
        simp only at p
        have eu := keyOf_ok h2 q2
        rcases hk.get k with ⟨g1, g2⟩ | ⟨d', v', g1, g2, rv⟩
        · rw [g1] at p; exact p.elim
        · rw [g1] at p
          refine .inr ⟨a, v', ev, .inl ⟨vs, k, .inl r1, eu, g2.symm⟩, p am v' H .refl rs rv⟩
    | none =>
      rw [q] at p
      simp only at p
      cases h2 with
      | int j =>
        have seq : Post X.K cl W σ (VR X.K) am H (match sqOf S d with | some xs => opt (atI xs j) S | none => .bad) Q → rIxL X.K v (.int j) H Q ∨ rIxT X.K v (.int j) H Q ∨ rIxS v (.int j) H Q := fun p => by
          cases q3 : sqOf S d with
          | none => rw [q3] at p; exact p.elim
          | some xs =>
            rw [q3] at p
            simp only at p
            obtain ⟨a, vs, ev, hq, hs⟩ := sqOf_ok rs h1 q3
            cases q4 : atI xs j with
            | none => rw [q4] at p; exact p.elim
            | some d' =>
              rw [q4] at p
              obtain ⟨v', hv', rv⟩ := atI_some hs q4
              have := p am v' H .refl rs rv
              rcases hq with hq | hq
              · exact .inl ⟨a, vs, j, v', ev, rfl, hq, hv', this⟩
              · exact .inr (.inl ⟨a, vs, j, v', ev, rfl, hq, hv', this⟩)
        refine .inl ?_
        cases h1 with
        | str x =>
          simp only at p
          by_cases hz : x.length ≤ sizeLine
          · rw [if_pos hz] at p
            cases q4 : atI x.cps.toList j with
            | none => rw [q4] at p; exact p.elim
            | some c =>
              rw [q4] at p
              exact .inr (.inr ⟨x, j, c, rfl, rfl, hz, q4, p am _ H .refl rs (.str _)⟩)
          · rw [if_neg hz] at p
            exact p.elim
        | _ => exact seq p
      | _ => exact p.elim)
def QP (cl : Str → Addr) (W : WX) (X : Cx) (e : Option Expr) (f : Ev (Option Int)) : Prop := PO X e (TD X.K cl W (fun _ _ a b => a = b) f)
theorem _root_.L2.PO.imp {X : Cx} {e : Option Expr} {t t' : TO} (h : PO X e t) (i : ∀ σ H Q, t' σ H Q → t σ H Q) : PO X e t' := ⟨fun pins s σ H Q I q => h.run pins s σ H Q I (i σ H Q q)⟩
def pN : Ev (Option Int) := fun _ S => .ok none S
def pE (f : Ev D) : Ev (Option Int) := fun e S => (f e S).bind fun d S => match d with
  | .int i => .ok (some i) S
  | _ => .bad
theorem qp_n : QP cl W X none pN := po_none.imp fun σ H Q ⟨am, e, S, rs, re, p⟩ => p am none H .refl rs rfl
theorem qp_e (ha : QE cl W X a f) : QP cl W X (some a) (pE f) := (po_some ha).imp fun σ H Q ⟨am, e, S, rs, re, p⟩ =>
  ⟨am, e, S, rs, re, (Post.step p).imp fun x H1 ⟨am1, S1, d, _, g1, rs1, rv, p1⟩ => by
    cases rv with
    | int i => exact ⟨i, rfl, p1 am1 _ H1 .refl rs1 rfl⟩
    | _ => exact p1.elim⟩
def cutL {α : Type} (xs : List α) (lo hi : Option Int) : List α := (xs.drop (HT.sIx xs.length 0 lo)).take (HT.sIx xs.length xs.length hi - HT.sIx xs.length 0 lo)
def slD (d : D) (lo hi : Option Int) (S : Sto) : Res D := match d with
  | .str x => if x.length ≤ sizeLine then .ok (.str (cutS x lo hi)) S else .bad
  | .tup xs => .ok (.tup (cutL xs lo hi)) S
  | d => match lsOf S d with
    | some xs => .ok (.lst (cutL xs lo hi)) S
    | none => .bad
def eSl (f : Ev D) (p q : Ev (Option Int)) : Ev D := fun e S => (f e S).bind fun d S => (p e S).bind fun lo S => (q e S).bind fun hi S => slD d lo hi S
theorem VRs.cutL {K : PySem.W.Frag} {am : AM} {H : Hp} {ds : List D} {vs : List V} (h : VRs K am H ds vs) (lo hi : Option Int) : VRs K am H (cutL ds lo hi) (cutV vs lo hi) := by
  unfold Pu.cutL cutV
  rw [← h.length]
  exact (h.drop _).take _
theorem cutL_all {α : Type} {xs : List α} {lo hi : Option Int} (h : HT.sIx xs.length 0 lo = 0 ∧ HT.sIx xs.length xs.length hi = xs.length) : cutL xs lo hi = xs := by
  unfold cutL
  rw [h.1, h.2]
  simp
theorem qe_sl {lo hi : Option Expr} {p2 : Pos} {p q : Ev (Option Int)} (ha : QE cl W X a f) (hl : QP cl W X lo p) (hh : QP cl W X hi q) : QE cl W X (.Subscript a (.Slice lo hi none p2) pos) (eSl f p q) :=
  (pe_slice (SlR.or sl_str (SlR.or sl_tupF sl_list)) ha hl hh).imp fun σ H Q ⟨am, e, S, rs, re, p⟩ =>
    ⟨am, e, S, rs, re, (Post.step p).imp fun x H1 ⟨am1, S1, d, _, g1, rs1, rv, p1⟩ =>
      ⟨am1, e, S1, rs1, re.mono g1, (Post.step p1).imp fun l H2 ⟨am2, S2, l', _, g2, rs2, rl, p2⟩ =>
        ⟨am2, e, S2, rs2, (re.mono g1).mono g2, (Post.step p2).imp fun u H3 ⟨am3, S3, u', _, g3, rs3, ru, p3⟩ => by
          have rl : l' = l := rl
          have ru : u' = u := ru
          subst rl ru
          have rv3 := (rv.mono g2).mono g3
          have ls : Post X.K cl W σ (VR X.K) am3 H3 (match lsOf S3 d with | some xs => .ok (.lst (cutL xs l' u')) S3 | none => .bad) Q → rSlL X.K x l' u' H3 Q := fun p => by
            cases q : lsOf S3 d with
            | none => rw [q] at p; exact p.elim
            | some xs =>
              rw [q] at p
              obtain ⟨a, vs, ev, r1, hs⟩ := lsOf_ok rs3 rv3 q
              exact ⟨a, vs, ev, r1, fun q hq => p am3 _ _ (Grow.upd hq) (rs3.upd hq) (VR.lstNew rs3 (hs.cutL l' u') hq)⟩
          cases rv3 with
          | str x =>
            simp only [slD] at p3
            by_cases hz : x.length ≤ sizeLine
            · rw [if_pos hz] at p3
              exact .inl ⟨x, rfl, hz, p3 am3 _ H3 .refl rs3 (.str _)⟩
            · rw [if_neg hz] at p3
              exact p3.elim
          | @tup a vs ds h1 h2 =>
            refine .inr (.inl ⟨a, vs, rfl, h1.seq, fun hw => ?_, fun hw q ob hq hd => ?_⟩)
            · refine p3 am3 _ H3 .refl rs3 ?_
              rw [cutL_all (by rw [h2.length]; exact hw)]
              exact .tup h1 h2
            · exact p3 am3 _ _ (Grow.upd hq) (rs3.upd hq) (VR.tupNew rs3 (h2.cutL l' u') hq hd)
          | lst _ _ _ => exact .inr (.inr (ls p3))
          | fls _ _ => exact .inr (.inr (ls p3))
          | ref _ => exact .inr (.inr (ls p3))
          | _ => exact p3.elim⟩⟩⟩
end

def flatD : D → Bool
  | .non => true
  | .bl _ => true
  | .int _ => true
  | .str _ => true
  | _ => false
def fEq : D → D → Bool
  | .non, .non => true
  | .bl a, .bl b => a == b
  | .bl a, .int b => (if a then 1 else 0) == b
  | .int a, .bl b => a == (if b then 1 else 0)
  | .int a, .int b => a == b
  | .str a, .str b => a == b
  | _, _ => false
def inD (neg : Bool) (d o : D) (S : Sto) : Res D := match dcOf S o with
  | some kvs => match keyOf d with
    | some k => .ok (.bl (if neg = true then !(getK kvs k).isSome else (getK kvs k).isSome)) S
    | none => .bad
  | none => match o with
    | .str y => match d with
      | .str x => .ok (.bl (if neg = true then !(!(Builtin.Str.occurrences y x 0 y.length 1).isEmpty) else !(Builtin.Str.occurrences y x 0 y.length 1).isEmpty)) S
      | _ => .bad
    | .tup xs => if flatD d = true ∧ xs.all flatD = true then .ok (.bl (if neg = true then !(xs.any fun z => fEq z d) else xs.any fun z => fEq z d)) S else .bad
    | o => match lsOf S o with
      | some xs => if SeqAt.shaped d.py = true ∧ SeqAt.shaped (.list (pys xs)) = true then .ok (.bl (if neg = true then !((pys xs).any fun z => PyData.eqv z d.py) else (pys xs).any fun z => PyData.eqv z d.py)) S else .bad
      | none => .bad
section
variable {K : PySem.W.Frag} {cl : Str → Addr} {am : AM} {H : Hp} {S : Sto}
theorem flat_ok {d : D} {v : V} (h : VR K am H d v) (f : flatD d = true) : flatV v = true := by
  cases h <;> first | rfl | cases f
theorem flats_ok : ∀ {ds : List D} {vs : List V}, VRs K am H ds vs → ds.all flatD = true → vs.all flatV = true
  | _, _, .nil, _ => rfl
  | _, _, .cons h t, f => by
    rw [List.all_cons, Bool.and_eq_true] at f
    rw [List.all_cons, flat_ok h f.1, flats_ok t f.2]
    rfl
theorem fEq_ok {d e : D} {v u : V} (h : VR K am H d v) (h' : VR K am H e u) : fEq d e = eqV v u := by
  cases h <;> cases h' <;> rfl
theorem any_ok {d : D} {v : V} (h : VR K am H d v) : ∀ {ds : List D} {vs : List V}, VRs K am H ds vs → (ds.any fun z => fEq z d) = inV v vs
  | _, _, .nil => rfl
  | _, _, .cons h1 t => by
    have ih := any_ok h t
    unfold inV at ih ⊢
    rw [List.any_cons, List.any_cons, ih, fEq_ok h1 h]
theorem lsOf_py (r : RelS K cl am S H) {d : D} {v : V} (h : VR K am H d v) {xs : List D} (e : lsOf S d = some xs) (q : PyData.canLayAll0 (pys xs) = true) : Dp K H v (.list (pys xs)) := by
  obtain ⟨a, vs, ev, r1, hs⟩ := lsOf_ok r h e
  subst ev
  exact .lst r1 (hs.dp q)
end
section
variable {cl : Str → Addr} {W : WX} {X : Cx} {a b c : Expr} {es : List Expr} {f g h : Ev D} {fs : List (Ev D)} {pos p : Pos} {x : Str}
def rKeyIn : R2 := fun y x H Q => ∃ a o, x = .ref a ∧ DGet H a y o ∧ Q (.bl o.isSome) H
def rKeyNotIn : R2 := fun y x H Q => ∃ a o, x = .ref a ∧ DGet H a y o ∧ Q (.bl (!o.isSome)) H
theorem op_inK (hu : X.A.units + 1 < cLine) : OpR X (compareOp .In) rKeyIn := by
  intro pins s σ H y x v u Q I ry rx h
  obtain ⟨a, o, rfl, g, q⟩ := h
  cases rx
  exact d_in hu I g ry fun s3 I3 => ⟨.bl o.isSome, H, I3, rfl, q⟩
theorem op_notInK (hu : X.A.units + 1 < cLine) : OpR X (compareOp .NotIn) rKeyNotIn := by
  intro pins s σ H y x v u Q I ry rx h
  obtain ⟨a, o, rfl, g, q⟩ := h
  cases rx
  exact d_notIn hu I g ry fun s3 I3 => ⟨.bl (!o.isSome), H, I3, rfl, q⟩
theorem units65 {k : Nat} {A : Around} (r : Room k A) : A.units + 65 < cLine := by have := r.un; omega
def rInA (K : PySem.W.Frag) : R2 := fun x y H Q => rKeyIn x y H Q ∨ (∃ i j, x = .str i ∧ y = .str j ∧ Q (.bl (!(Builtin.Str.occurrences j i 0 j.length 1).isEmpty)) H) ∨ rIn K false x y H Q ∨ rInD K x y H Q
def rNotInA (K : PySem.W.Frag) : R2 := fun x y H Q => rKeyNotIn x y H Q ∨ (∃ i j, x = .str i ∧ y = .str j ∧ Q (.bl (!(!(Builtin.Str.occurrences j i 0 j.length 1).isEmpty))) H) ∨ rIn K true x y H Q ∨ rNotInD K x y H Q
theorem op_inA {k : Nat} (hr : Room k X.A) : OpR X (compareOp .In) (rInA X.K) := OpR.or (op_inK (hu_of hr)) (OpR.or op_in_str (OpR.or op_in_seq (op_inD (units65 hr))))
theorem op_notInA {k : Nat} (hr : Room k X.A) : OpR X (compareOp .NotIn) (rNotInA X.K) := OpR.or (op_notInK (hu_of hr)) (OpR.or op_notin_str (OpR.or op_notIn_seq (op_notInD (units65 hr))))
theorem ok_in (neg : Bool) : Ok2 X.K cl (fun x y H Q => if neg = true then rNotInA X.K x y H Q else rInA X.K x y H Q) (inD neg) := by
  intro W σ am S H d o v u Q rs h1 h2 p
  unfold inD at p
  cases q : dcOf S o with
  | some kvs =>
    rw [q] at p
    obtain ⟨a, vs, ev, r1, hk⟩ := dcOf_ok rs h2 q
    simp only at p
    cases q2 : keyOf d with
    | none => rw [q2] at p; exact p.elim
    | some k =>
      rw [q2] at p
      have eu := keyOf_ok h1 q2
      have e : (getK kvs k).isSome = (valV vs k).isSome := by
        rcases hk.get k with ⟨g1, g2⟩ | ⟨d', v', g1, g2, rv⟩
        · rw [g1, g2]
          rfl
        · rw [g1, g2]
          rfl
      have p' := p am _ H .refl rs (.bl _)
      rw [e] at p'
      cases neg with
      | true => exact .inl ⟨a, _, ev, .inl ⟨vs, k, .inl r1, eu, rfl⟩, p'⟩
      | false => exact .inl ⟨a, _, ev, .inl ⟨vs, k, .inl r1, eu, rfl⟩, p'⟩
  | none =>
    rw [q] at p
    have ls : Post X.K cl W σ (VR X.K) am H (match lsOf S o with
      | some xs => if SeqAt.shaped d.py = true ∧ SeqAt.shaped (.list (pys xs)) = true then .ok (.bl (if neg = true then !((pys xs).any fun z => PyData.eqv z d.py) else (pys xs).any fun z => PyData.eqv z d.py)) S else .bad
      | none => .bad) Q → if neg = true then rNotInA X.K v u H Q else rInA X.K v u H Q := fun p => by
      cases q3 : lsOf S o with
      | none => rw [q3] at p; exact p.elim
      | some xs =>
        rw [q3] at p
        simp only at p
        by_cases hc : SeqAt.shaped d.py = true ∧ SeqAt.shaped (.list (pys xs)) = true
        · rw [if_pos hc] at p
          have p' := p am _ H .refl rs (.bl _)
          have hd := h1.dp (SeqAt.canLay_of_shaped hc.1)
          have hl := lsOf_py rs h2 q3 (by simpa [PyData.canLay0] using SeqAt.canLay_of_shaped hc.2)
          cases neg with
          | true => exact .inr (.inr (.inr ⟨_, _, hd, hl, hc.1, hc.2, p'⟩))
          | false => exact .inr (.inr (.inr ⟨_, _, hd, hl, hc.1, hc.2, p'⟩))
        · rw [if_neg hc] at p
          exact p.elim
    cases h2 with
    | str y =>
      cases h1 with
      | str x =>
        have p' := p am _ H .refl rs (.bl _)
        cases neg with
        | true => exact .inr (.inl ⟨x, y, rfl, rfl, p'⟩)
        | false => exact .inr (.inl ⟨x, y, rfl, rfl, p'⟩)
      | _ => exact p.elim
    | @tup a vs xs t hs =>
      simp only at p
      by_cases hc : flatD d = true ∧ xs.all flatD = true
      · rw [if_pos hc] at p
        have p' := p am _ H .refl rs (.bl _)
        rw [any_ok h1 hs] at p'
        cases neg with
        | true => exact .inr (.inr (.inl ⟨a, vs, rfl, .inr t.seq, flat_ok h1 hc.1, flats_ok hs hc.2, p'⟩))
        | false => exact .inr (.inr (.inl ⟨a, vs, rfl, .inr t.seq, flat_ok h1 hc.1, flats_ok hs hc.2, p'⟩))
      · rw [if_neg hc] at p
        exact p.elim
    | lst h1 h2 h3 => exact ls p
    | fls h1 h3 => exact ls p
    | ref h1 => exact ls p
    | _ => exact p.elim
theorem qe_in {k : Nat} (hr : Room k X.A) (ha : QE cl W X a f) (hb : QE cl W X b g) (hm : behindInMarks .In b = false := by rfl) : QE cl W X (.Compare a [.In] [b] pos) (e2 (inD false) f g) := qe_cmp (op_inA hr) (ok_in false) ha hb hm
theorem qe_notIn {k : Nat} (hr : Room k X.A) (ha : QE cl W X a f) (hb : QE cl W X b g) (hm : behindInMarks .NotIn b = false := by rfl) : QE cl W X (.Compare a [.NotIn] [b] pos) (e2 (inD true) f g) := qe_cmp (op_notInA hr) (ok_in true) ha hb hm
theorem qt_in {k : Nat} (hr : Room k X.A) (ha : QE cl W X a f) (hb : QE cl W X b g) (hm : behindInMarks .In b = false := by rfl) : QT cl W X (.Compare a [.In] [b] pos) (eTB (e2 (inD false) f g)) := qt_cmp (op_inA hr) (ok_in false) ha hb hm
theorem qt_notIn {k : Nat} (hr : Room k X.A) (ha : QE cl W X a f) (hb : QE cl W X b g) (hm : behindInMarks .NotIn b = false := by rfl) : QT cl W X (.Compare a [.NotIn] [b] pos) (eTB (e2 (inD true) f g)) := qt_cmp (op_notInA hr) (ok_in true) ha hb hm
end
end Pu
set_option Elab.async false
set_option linter.all false
set_option maxRecDepth 100000
namespace Pu
open PySem PySem.Spec PyProof.Rows L2

/-- what is written into an object of the store -/
def stD (o i v : D) (S : Sto) : Option Sto := match o with
  | .ref k => match S[k]? with
    | some (.lst xs) => match i with
      | .int j => (ixN xs.length j).map fun n => S.set k (.lst (xs.set n v))
      | _ => none
    | some (.dct kvs) => (keyOf i).bind fun q => if kvs.length < sizeLine then some (S.set k (.dct (putD kvs q v))) else none
    | _ => none
  | _ => none
/-- o[i] = v -/
def sSt (f fo fi : Ev D) : Stm := fun e S => (f e S).stm e fun v S => (fo e S).stm e fun o S => (fi e S).stm e fun i S => match stD o i v S with
  | some S' => .next e S'
  | none => .bad
def rSetA : TSet := fun o i v H Q => rSetL o i v H Q ∨ ∃ a H', o = .ref a ∧ DPut H a i v H' ∧ Q H'
section
variable {cl : Str → Addr} {W : WX} {X : Cx} {a b c : Expr} {es : List Expr} {f g h : Ev D} {fs : List (Ev D)} {pos p tpos : Pos} {x : Str}
theorem set_A (hu : X.A.units + 1 < cLine) : PSet X rSetA := by
  intro pins s σ H o i v ov iv u Q I ro ri rv h
  rcases h with h | ⟨a, H', rfl, g, q⟩
  · exact set_list pins s σ H o i v ov iv u Q I ro ri rv h
  · cases ro
    exact d_setItem hu I g ri rv fun s4 I4 => ⟨H', I4, q⟩
theorem st_ok {am : AM} {S S' : Sto} {H : Hp} {o i v : D} {ov iv vv : V} {Q : Hp → Prop} (rs : RelS X.K cl am S H) (h1 : VR X.K am H o ov) (h2 : VR X.K am H i iv) (h3 : VR X.K am H v vv) (e : stD o i v S = some S')
    (q : ∀ H', Grow am am H H' → RelS X.K cl am S' H' → Q H') : rSetA ov iv vv H Q := by
  cases h1 with
  | @ref k a hk =>
    simp only [stD] at e
    cases e1 : S[k]? with
    | none => rw [e1] at e; cases e
    | some ob =>
      rw [e1] at e
      cases ob with
      | lst xs =>
        obtain ⟨vs, r1, r2⟩ := rs.ob k _ a e1 hk
        cases h2 with
        | int j =>
          simp only at e
          cases e2 : ixN xs.length j with
          | none => rw [e2] at e; cases e
          | some n =>
            rw [e2] at e
            cases e
            have hm : a ∈ am.ad := List.mem_of_getElem? hk
            exact .inl ⟨a, vs, j, n, rfl, rfl, r1, by rw [← r2.length]; exact e2, q _ (Grow.put hm) (rs.put hk ⟨_, upd_same, (r2.setA n h3).mono (Grow.put hm)⟩)⟩
        | _ => cases e
      | dct kvs =>
        obtain ⟨vs, r1, r2⟩ := rs.ob k _ a e1 hk
        simp only at e
        cases e2 : keyOf i with
        | none => rw [e2] at e; cases e
        | some ky =>
          rw [e2] at e
          simp only [Option.bind_some] at e
          by_cases hz : kvs.length < sizeLine
          · rw [if_pos hz] at e
            cases e
            have hm : a ∈ am.ad := List.mem_of_getElem? hk
            exact .inr ⟨a, _, rfl, .inl ⟨vs, ky, r1, keyOf_ok h2 e2, by rw [← r2.length]; exact hz, rfl⟩, q _ (Grow.put hm) (rs.put hk ⟨_, upd_same, (r2.put ky h3).mono (Grow.put hm)⟩)⟩
          · rw [if_neg hz] at e
            cases e
      | ins c fs => cases e
  | _ => cases e
theorem qs_st {k : Nat} (hr : Room k X.A) (ha : QE cl W X a f) (hb : QE cl W X b g) (hc : QE cl W X c h) (hs : swapsWithSole [.Subscript b c tpos] a pos.line X.env = pure false := by rfl) (hw : swappedStores [.Subscript b c tpos] a X.env = pure none := by rfl)
    (h1 : (assignEach [.Subscript b c tpos] X.env).map (·.2) = [assign (.Subscript b c tpos) X.env] := by rfl)
    (h2 : ∀ v, assign (.Subscript b c tpos) X.env v = (do
      let ov ← holding [v] (eval b X.env)
      let iv ← holding [v, ov] (eval c X.env)
      standAt tpos
      holding [v, ov, iv] (setItem ov iv v)
      release [v, ov, iv] []) := by intro _; rfl) : QS cl W X (.Assign [.Subscript b c tpos] a pos) (sSt f g h) :=
  (ps_asg ha (pg_sub hb hc (set_A (hu_of hr)) h2) hs hw h1).imp fun E σ H ⟨am, e, S, rs, re, p⟩ =>
    ⟨am, e, S, rs, re, (PostS.step re p).imp fun x H1 ⟨am1, S1, d1, _, g1, rs1, rv1, p1⟩ =>
      ⟨am1, e, S1, rs1, re.mono g1, (PostS.step (re.mono g1) p1).imp fun y H2 ⟨am2, S2, d2, _, g2, rs2, rv2, p2⟩ =>
        ⟨am2, e, S2, rs2, (re.mono g1).mono g2, (PostS.step ((re.mono g1).mono g2) p2).imp fun z H3 ⟨am3, S3, d3, _, g3, rs3, rv3, p3⟩ => by
          cases q : stD d2 d3 d1 S3 with
          | none => simp only [q] at p3; exact p3.elim
          | some S' =>
            simp only [q] at p3
            exact st_ok rs3 (rv2.mono g3) rv3 ((rv1.mono g2).mono g3) q fun H' g4 rs4 => p3 am3 σ H' g4 rs4 ((((re.mono g1).mono g2).mono g3).mono g4)⟩⟩⟩
/-- name op= e -/
def sAug (op : D → D → Sto → Res D) (i : Nat) (f : Ev D) : Stm := fun e S => (eVar i e S).stm e fun x S => (f e S).stm e fun y S => (op x y S).stm e fun z S => .next (e.set i (some z)) S
theorem qs_aug {i : Nat} {op : Operator} {r : R2} {o : D → D → Sto → Res D} {pos' : Pos} (ho : OpR X (inplaceOp op) r) (ok : Ok2 X.K cl r o) (hN : X.N.Nodup) (hi : X.N[i]? = some x) (hx : Loc X.env.scope x) (he : QE cl W X a f) (hf : X.fn x = true ∨ X.env.scope.names.lookup x = some .local := by first | exact .inl rfl | exact .inr rfl | assumption) :
    QS cl W X (.AugAssign (.Name x pos') op a pos) (sAug o i f) := (ps_aug (ti := r) hN hi hx he ho hf).imp fun E σ H ⟨am, e, S, rs, re, p⟩ => by
  unfold sAug eVar at p
  cases q : e[i]? with
  | none => simp only [q, Res.stm_bad] at p; exact p.elim
  | some z =>
    cases z with
    | none => simp only [q, Res.stm_bad] at p; exact p.elim
    | some d =>
      simp only [q, Res.stm_ok] at p
      obtain ⟨v, h1, h2⟩ := re.get i d q
      exact ⟨v, h1, am, e, S, rs, re, (PostS.step re p).imp fun y H1 ⟨am1, S1, d1, _, g1, rs1, rv1, p1⟩ =>
        ok W σ am1 S1 H1 d d1 v y _ rs1 (h2.mono g1) rv1 ((PostS.step (re.mono g1) p1).imp fun z H2 ⟨am2, S2, d2, _, g2, rs2, rv2, p2⟩ => p2 am2 _ H2 .refl rs2 (((re.mono g1).mono g2).set i rv2))⟩
theorem qs_augAdd {i : Nat} {pos' : Pos} (hN : X.N.Nodup) (hi : X.N[i]? = some x) (hx : Loc X.env.scope x) (he : QE cl W X a f) (hf : X.fn x = true ∨ X.env.scope.names.lookup x = some .local := by first | exact .inl rfl | exact .inr rfl | assumption) :
    QS cl W X (.AugAssign (.Name x pos') .Add a pos) (sAug (intD (fun _ _ => True) fun i j => .int (i + j)) i f) :=
  qs_aug iop_add (ok_intD (gv := fun i j => .int (i + j)) (fun _ _ _ _ => .int _) fun i j H Q _ q => ⟨i, j, rfl, rfl, q⟩) hN hi hx he hf
theorem qs_augSub {i : Nat} {pos' : Pos} (hN : X.N.Nodup) (hi : X.N[i]? = some x) (hx : Loc X.env.scope x) (he : QE cl W X a f) (hf : X.fn x = true ∨ X.env.scope.names.lookup x = some .local := by first | exact .inl rfl | exact .inr rfl | assumption) :
    QS cl W X (.AugAssign (.Name x pos') .Sub a pos) (sAug subD i f) :=
  qs_aug iop_sub (ok_intD (gv := fun i j => .int (i - j)) (fun _ _ _ _ => .int _) fun i j H Q _ q => ⟨i, j, rfl, rfl, q⟩) hN hi hx he hf

def OkM (K : PySem.W.Frag) (cl : Str → Addr) (T : String) (r : V → List V → Hp → VK → Prop) (op : D → List D → Sto → Res D) : Prop :=
  ∀ (W : WX) (σ : L2.St) (am : AM) (S : Sto) (H : Hp) (o : D) (ds : List D) (x : V) (vs : List V) (Q : VK), RelS K cl am S H → VR K am H o x → VRs K am H ds vs → Post K cl W σ (VR K) am H (op o ds S) Q → r x vs H Q
/-- of the receiver, ahead of the arguments -/
def isT (T : String) (o : D) (S : Sto) : Prop := match o with
  | .str _ => T = "str"
  | .int _ => T = "int"
  | o => (T = "list" ∧ (lsOf S o).isSome = true) ∨ (T = "dict" ∧ (dcOf S o).isSome = true)
instance (T : String) (o : D) (S : Sto) : Decidable (isT T o S) := by unfold isT; cases o <;> infer_instance
theorem isT_ok {K : PySem.W.Frag} {am : AM} {S : Sto} {H : Hp} {T : String} {o : D} {x : V} (rs : RelS K cl am S H) (h : VR K am H o x) (t : isT T o S) : tyV K T x H := by
  have oth : ((T = "list" ∧ (lsOf S o).isSome = true) ∨ (T = "dict" ∧ (dcOf S o).isSome = true)) → tyV K T x H := fun t => by
    rcases t with ⟨e, t⟩ | ⟨e, t⟩
    · obtain ⟨xs, q⟩ := Option.isSome_iff_exists.mp t
      obtain ⟨a, vs, ev, r1, _⟩ := lsOf_ok rs h q
      subst ev
      exact .inl ⟨e, vs, r1⟩
    · obtain ⟨xs, q⟩ := Option.isSome_iff_exists.mp t
      obtain ⟨a, vs, ev, r1, _⟩ := dcOf_ok rs h q
      subst ev
      exact .inr (.inr (.inl ⟨e, .inl ⟨vs, r1⟩⟩))
  cases h with
  | str x => exact t
  | int i => exact t
  | non => rcases t with ⟨_, t⟩ | ⟨_, t⟩ <;> cases t
  | bl b => rcases t with ⟨_, t⟩ | ⟨_, t⟩ <;> cases t
  | tup _ _ => rcases t with ⟨_, t⟩ | ⟨_, t⟩ <;> cases t
  | _ => exact oth t
def eM (T : String) (op : D → List D → Sto → Res D) (fo : Ev D) (fs : List (Ev D)) : Ev D := fun e S => (fo e S).bind fun o S => if isT T o S then (eArgs fs e S).bind fun ds S => op o ds S else .bad
variable {o : Expr} {name : Str} {apos cpos : Pos} {T id : String} {r : V → List V → Hp → VK → Prop} {op : D → List D → Sto → Res D}
theorem qe_bm (pa : PlainAttrs T) (slot : Slot T name id) (hty : typeOf (.builtin id) = pure (.type "method_descriptor")) (hm : MtR X id r) (ok : OkM X.K cl T r op) (ho : QE cl W X o g) (ha : QA cl W X (a :: es) (eArgs fs))
    (hbase : attributeBase o name X.env (eval o X.env) = eval o X.env := by rfl)
    (hfew : ((backTo cpos (starEach (a :: es) X.env)).all (fun x => !x.1) && (backToKw cpos (keywordEach [] X.env)).all (fun x => x.1.isSome)
      && decide ((a :: es).length + ([] : List Keyword).length + (if ([] : List Keyword).isEmpty then 0 else 1) < 30)) = true := by rfl)
    (hline : (apos.endLine == cpos.line) = true := by rfl) (hs : starEach (a :: es) X.env = (false, eval a X.env) :: starEach es X.env := by rfl) (hplain : (backTo cpos (starEach es X.env)).any (·.1) = false := by rfl) :
    QE cl W X (.Call (.Attribute o name apos) (a :: es) [] cpos) (eM T op g fs) := (pe_bm pa slot hty hm ho ha hbase hfew hline hs hplain).imp fun σ H Q ⟨am, e, S, rs, re, p⟩ =>
  ⟨am, e, S, rs, re, (Post.step p).imp fun x H1 ⟨am1, S1, d1, _, g1, rs1, rv1, p1⟩ => by
    by_cases ht : isT T d1 S1
    · rw [if_pos ht] at p1
      exact ⟨isT_ok rs1 rv1 ht, am1, e, S1, rs1, re.mono g1, (Post.step p1).imp fun vs H2 ⟨am2, S2, ds, _, g2, rs2, rvs, p2⟩ => ok W σ am2 S2 H2 d1 ds x vs Q rs2 (rv1.mono g2) rvs p2⟩
    · rw [if_neg ht] at p1
      exact p1.elim⟩
theorem qe_bm0 (pa : PlainAttrs T) (slot : Slot T name id) (hty : typeOf (.builtin id) = pure (.type "method_descriptor")) (hm : MtR X id r) (ok : OkM X.K cl T r op) (ho : QE cl W X o g)
    (hbase : attributeBase o name X.env (eval o X.env) = eval o X.env := by rfl) (hline : (apos.endLine == cpos.line) = true := by rfl) : QE cl W X (.Call (.Attribute o name apos) [] [] cpos) (eM T op g []) := (pe_bm0 pa slot hty hm ho hbase hline).imp fun σ H Q ⟨am, e, S, rs, re, p⟩ =>
  ⟨am, e, S, rs, re, (Post.step p).imp fun x H1 ⟨am1, S1, d1, _, g1, rs1, rv1, p1⟩ => by
    by_cases ht : isT T d1 S1
    · rw [if_pos ht] at p1
      exact ⟨isT_ok rs1 rv1 ht, ok W σ am1 S1 H1 d1 [] x [] Q rs1 rv1 .nil p1⟩
    · rw [if_neg ht] at p1
      exact p1.elim⟩
/-- xs.append(y) -/
def appD (o : D) (ds : List D) (S : Sto) : Res D := match o, ds with
  | .ref k, [y] => match S[k]? with
    | some (.lst xs) => if xs.length < sizeLine then .ok .non (S.set k (.lst (xs ++ [y]))) else .bad
    | _ => .bad
  | _, _ => .bad
theorem ok_app : OkM X.K cl "list" rAppend appD := by
  intro W σ am S H o ds x vs Q rs h1 h2 p
  cases h1 with
  | @ref k a hk =>
    cases h2 with
    | nil => exact p.elim
    | cons r1 r2 =>
      cases r2 with
      | cons _ _ => exact p.elim
      | nil =>
        simp only [appD] at p
        cases e1 : S[k]? with
        | none => rw [e1] at p; exact p.elim
        | some ob =>
          rw [e1] at p
          cases ob with
          | lst xs =>
            obtain ⟨us, q1, q2⟩ := rs.ob k _ a e1 hk
            simp only at p
            by_cases hz : xs.length < sizeLine
            · rw [if_pos hz] at p
              have hm : a ∈ am.ad := List.mem_of_getElem? hk
              exact ⟨a, us, _, rfl, rfl, q1, by rw [← q2.length]; exact hz, p am _ _ (Grow.put hm) (rs.put hk ⟨_, upd_same, (q2.append (.cons r1 .nil)).mono (Grow.put hm)⟩) .non⟩
            · rw [if_neg hz] at p
              exact p.elim
          | _ => exact p.elim
  | _ => exact p.elim
theorem qe_append (ho : QE cl W X o g) (ha : QE cl W X a f) (h0 : starEach [a] X.env = (false, eval a X.env) :: starEach [] X.env := by rfl)
    (hbase : attributeBase o "append" X.env (eval o X.env) = eval o X.env := by rfl)
    (hfew : ((backTo cpos (starEach [a] X.env)).all (fun x => !x.1) && (backToKw cpos (keywordEach [] X.env)).all (fun x => x.1.isSome)
      && decide (([a] : List Expr).length + ([] : List Keyword).length + (if ([] : List Keyword).isEmpty then 0 else 1) < 30)) = true := by rfl)
    (hline : (apos.endLine == cpos.line) = true := by rfl) (hplain : (backTo cpos (starEach [] X.env)).any (·.1) = false := by rfl) :
    QE cl W X (.Call (.Attribute o "append" apos) [a] [] cpos) (eM "list" appD g [f]) := qe_bm PySem.F.plainAttrs_list PySem.F.slot_list_append PySem.F.type_list_append mt_append ok_app ho (qa_cons ha qa_nil h0) hbase hfew hline h0 hplain

def lenD (ds : List D) (S : Sto) : Res D := match ds with
  | [d] => match dcOf S d with
    | some kvs => match d with
      | .fls _ => .bad
      | _ => .ok (.int kvs.length) S
    | none => match d with
      | .str x => if x.length ≤ sizeLine then .ok (.int x.length) S else .bad
      | d => match sqOf S d with
        | some xs => .ok (.int xs.length) S
        | none => .bad
  | _ => .bad
theorem call_lenA : CallR X (.builtin "len") (fun xs H Q => (∃ x n, xs = [x] ∧ LenV X.K x H n ∧ Q (.int n) H) ∨ ∃ a kvs, xs = [V.ref a] ∧ H a = some (.dK kvs) ∧ Q (.int kvs.length) H) := CallR.or call_len call_lenD
theorem ok_len : OkN X.K cl (fun xs H Q => (∃ x n, xs = [x] ∧ LenV X.K x H n ∧ Q (.int n) H) ∨ ∃ a kvs, xs = [V.ref a] ∧ H a = some (.dK kvs) ∧ Q (.int kvs.length) H) lenD := by
  intro W σ am S H ds vs Q rs h p
  cases h with
  | nil => exact p.elim
  | @cons d v ds vs r1 r2 =>
    cases r2 with
    | cons _ _ => exact p.elim
    | nil =>
      simp only [lenD] at p
      cases q : dcOf S d with
      | some kvs =>
        rw [q] at p
        obtain ⟨a, us, ev, q1, q2⟩ := dcOf_ok rs r1 q
        subst ev
        refine .inr ⟨a, us, rfl, q1, ?_⟩
        rw [← q2.length]
        cases r1 with
        | fls _ _ => cases q
        | _ => exact p am _ H .refl rs (.int _)
      | none =>
        rw [q] at p
        have sq : Post X.K cl W σ (VR X.K) am H (match sqOf S d with | some xs => .ok (.int xs.length) S | none => .bad) Q → ∃ x n, [v] = [x] ∧ LenV X.K x H n ∧ Q (.int n) H := fun p => by
          cases q3 : sqOf S d with
          | none => rw [q3] at p; exact p.elim
          | some xs =>
            rw [q3] at p
            obtain ⟨a, us, ev, hq, hs⟩ := sqOf_ok rs r1 q3
            subst ev
            refine ⟨_, xs.length, rfl, ?_, p am _ H .refl rs (.int _)⟩
            rcases hq with hq | hq
            · exact .inl ⟨us, hq, hs.length⟩
            · exact .inr ⟨us, hq, hs.length⟩
        cases r1 with
        | str x =>
          simp only at p
          by_cases hz : x.length ≤ sizeLine
          · rw [if_pos hz] at p
            exact .inl ⟨_, x.length, rfl, ⟨hz, rfl⟩, p am _ H .refl rs (.int _)⟩
          · rw [if_neg hz] at p
            exact p.elim
        | _ => exact .inl (sq p)
/-- int of a truth or a number -/
def int1D (ds : List D) (S : Sto) : Res D := match ds with
  | [.int i] => .ok (.int i) S
  | [.bl b] => .ok (.int (if b then 1 else 0)) S
  | _ => .bad
theorem ok_int1 : OkN X.K cl (fun xs H Q => (∃ i, xs = [.int i] ∧ Q (.int i) H) ∨ ∃ k, xs = [.bl k] ∧ Q (.int (if k then 1 else 0)) H) int1D := by
  intro W σ am S H ds vs Q rs h p
  cases h with
  | nil => exact p.elim
  | cons r1 r2 =>
    cases r2 with
    | cons _ _ => cases r1 <;> exact p.elim
    | nil =>
      cases r1 with
      | int i => exact .inl ⟨i, rfl, p am _ H .refl rs (.int _)⟩
      | bl b => exact .inr ⟨b, rfl, p am _ H .refl rs (.int _)⟩
      | _ => exact p.elim
/-- tuple of a list or a tuple -/
def tupD (ds : List D) (S : Sto) : Res D := match ds with
  | [d] => match sqOf S d with
    | some xs => .ok (.tup xs) S
    | none => .bad
  | _ => .bad
theorem ok_tup : OkN X.K cl (fun xs H Q => ∃ p ys, xs = [.ref p] ∧ ((SqL X.K H p ys ∧ NT ys H Q) ∨ (SqT X.K H p ys ∧ Q (.ref p) H))) tupD := by
  intro W σ am S H ds vs Q rs h p
  cases h with
  | nil => exact p.elim
  | @cons d v ds vs r1 r2 =>
    cases r2 with
    | cons _ _ => exact p.elim
    | nil =>
      simp only [tupD] at p
      have ls : Post X.K cl W σ (VR X.K) am H (match lsOf S d with | some xs => .ok (.tup xs) S | none => .bad) Q → ∃ p ys, [v] = [.ref p] ∧ ((SqL X.K H p ys ∧ NT ys H Q) ∨ (SqT X.K H p ys ∧ Q (.ref p) H)) := fun p => by
        cases q : lsOf S d with
        | none => rw [q] at p; exact p.elim
        | some xs =>
          rw [q] at p
          obtain ⟨a, us, ev, q1, q2⟩ := lsOf_ok rs r1 q
          subst ev
          exact ⟨a, us, rfl, .inl ⟨q1, fun l ob hl hd => p am _ _ (Grow.upd hl) (rs.upd hl) (VR.tupNew rs q2 hl hd)⟩⟩
      cases r1 with
      | @tup a us xs t hs => exact ⟨a, us, rfl, .inr ⟨t.seq, p am _ H .refl rs (.tup t hs)⟩⟩
      | lst _ _ _ => exact ls p
      | fls _ _ => exact ls p
      | ref _ => exact ls p
      | _ => exact p.elim
/-- all, any of a list of truths -/
def bools : List D → Option (List Bool)
  | [] => some []
  | .bl b :: xs => (bools xs).map (b :: ·)
  | _ :: _ => none
def intsL : List D → Option (List Int)
  | [] => some []
  | .int b :: xs => (intsL xs).map (b :: ·)
  | _ :: _ => none
@[simp] theorem bools_map (bs : List Bool) : bools (bs.map D.bl) = some bs := by
  induction bs with
  | nil => rfl
  | cons b bs ih => rw [List.map_cons]; simp only [bools, ih, Option.map_some]
@[simp] theorem ints_map (bs : List Int) : intsL (bs.map D.int) = some bs := by
  induction bs with
  | nil => rfl
  | cons b bs ih => rw [List.map_cons]; simp only [intsL, ih, Option.map_some]
theorem bools_ok {K : PySem.W.Frag} {am : AM} {H : Hp} : ∀ {ds : List D} {vs : List V} {bs : List Bool}, VRs K am H ds vs → bools ds = some bs → vs = bs.map V.bl
  | _, _, _, .nil, e => by cases e; rfl
  | _, _, _, .cons (ds := ds) h t, e => by
    cases h with
    | bl b =>
      simp only [bools] at e
      cases q : bools ds with
      | none => rw [q] at e; cases e
      | some bs =>
        rw [q] at e
        cases e
        rw [List.map_cons, bools_ok t q]
    | _ => cases e
theorem ints_ok {K : PySem.W.Frag} {am : AM} {H : Hp} : ∀ {ds : List D} {vs : List V} {bs : List Int}, VRs K am H ds vs → intsL ds = some bs → vs = bs.map V.int
  | _, _, _, .nil, e => by cases e; rfl
  | _, _, _, .cons (ds := ds) h t, e => by
    cases h with
    | int b =>
      simp only [intsL] at e
      cases q : intsL ds with
      | none => rw [q] at e; cases e
      | some bs =>
        rw [q] at e
        cases e
        rw [List.map_cons, ints_ok t q]
    | _ => cases e
def boolsD (f : List Bool → Bool) (ds : List D) (S : Sto) : Res D := match ds with
  | [d] => match (lsOf S d).bind bools with
    | some bs => .ok (.bl (f bs)) S
    | none => .bad
  | _ => .bad
theorem ok_bools {fb : List Bool → Bool} {r : List V → Hp → VK → Prop} (hr : ∀ a bs H Q, SqL X.K H a (bs.map V.bl) → Q (.bl (fb bs)) H → r [.ref a] H Q) : OkN X.K cl r (boolsD fb) := by
  intro W σ am S H ds vs Q rs h p
  cases h with
  | nil => exact p.elim
  | @cons d v ds vs r1 r2 =>
    cases r2 with
    | cons _ _ => exact p.elim
    | nil =>
      simp only [boolsD] at p
      cases q : lsOf S d with
      | none => simp only [q, Option.bind_none] at p; exact p.elim
      | some xs =>
        simp only [q, Option.bind_some] at p
        cases q2 : bools xs with
        | none => rw [q2] at p; exact p.elim
        | some bs =>
          rw [q2] at p
          obtain ⟨a, us, ev, q1, q3⟩ := lsOf_ok rs r1 q
          subst ev
          have e := bools_ok q3 q2
          subst e
          exact hr a bs H Q q1 (p am _ H .refl rs (.bl _))
theorem ok_all : OkN X.K cl (rAll X.K) (boolsD fun bs => bs.all _root_.id) := ok_bools fun a bs H Q h q => ⟨a, bs, rfl, h, q⟩
theorem ok_any : OkN X.K cl (rAny X.K) (boolsD fun bs => bs.any _root_.id) := ok_bools fun a bs H Q h q => ⟨a, bs, rfl, h, q⟩
/-- sum of a list of whole numbers -/
def intsD (f : List Int → D) (ds : List D) (S : Sto) : Res D := match ds with
  | [d] => match (lsOf S d).bind intsL with
    | some bs => .ok (f bs) S
    | none => .bad
  | _ => .bad
theorem ok_sum : OkN X.K cl (rSum X.K) (intsD fun ns => .int ns.sum) := by
  intro W σ am S H ds vs Q rs h p
  cases h with
  | nil => exact p.elim
  | @cons d v ds vs r1 r2 =>
    cases r2 with
    | cons _ _ => exact p.elim
    | nil =>
      simp only [intsD] at p
      cases q : lsOf S d with
      | none => simp only [q, Option.bind_none] at p; exact p.elim
      | some xs =>
        simp only [q, Option.bind_some] at p
        cases q2 : intsL xs with
        | none => rw [q2] at p; exact p.elim
        | some bs =>
          rw [q2] at p
          obtain ⟨a, us, ev, q1, q3⟩ := lsOf_ok rs r1 q
          subst ev
          have e := ints_ok q3 q2
          subst e
          exact ⟨a, bs, rfl, q1, p am _ H .refl rs (.int _)⟩
/-- of two whole numbers -/
def ii2D (f : Int → Int → Int) (ds : List D) (S : Sto) : Res D := match ds with
  | [.int i, .int j] => .ok (.int (f i j)) S
  | _ => .bad
theorem ok_ii2 {fi : Int → Int → Int} {r : List V → Hp → VK → Prop} (hr : ∀ i j H Q, Q (.int (fi i j)) H → r [.int i, .int j] H Q) : OkN X.K cl r (ii2D fi) := by
  intro W σ am S H ds vs Q rs h p
  cases h with
  | nil => exact p.elim
  | cons r1 r2 =>
    cases r2 with
    | nil => cases r1 <;> exact p.elim
    | cons r2 r3 =>
      cases r3 with
      | nil =>
        cases r1 with
        | int i =>
          cases r2 with
          | int j => exact hr i j H Q (p am _ H .refl rs (.int _))
          | _ => exact p.elim
        | _ => cases r2 <;> exact p.elim
      | cons _ _ => cases r1 <;> cases r2 <;> exact p.elim
def maxI (i j : Int) : Int := if j > i then j else i
def minI (i j : Int) : Int := if j < i then j else i
def absD (ds : List D) (S : Sto) : Res D := match ds with
  | [.int i] => .ok (.int (if i < 0 then -i else i)) S
  | _ => .bad
theorem ok_abs : OkN X.K cl (fun xs H Q => ∃ i, xs = [.int i] ∧ Q (.int (if i < 0 then -i else i)) H) absD := by
  intro W σ am S H ds vs Q rs h p
  cases h with
  | nil => exact p.elim
  | cons r1 r2 =>
    cases r2 with
    | cons _ _ => cases r1 <;> exact p.elim
    | nil =>
      cases r1 with
      | int i => exact ⟨i, rfl, p am _ H .refl rs (.int _)⟩
      | _ => exact p.elim
/-- list of a list or a tuple: a new list -/
def nListOf (f : Ev D) : Ev DO := fun e S => (eArgs [f] e S).bind fun ds S => match ds with
  | [d] => match sqOf S d with
    | some xs => .ok (.lst xs) S
    | none => .bad
  | _ => .bad
variable (hm : X.mg x = none)
/-- calls by name -/
theorem qe_len (hg : Gl X "len") (hm : X.mg "len" = none) (ha : QA cl W X [a] (eArgs fs)) (he : starEach [a] X.env = (false, eval a X.env) :: starEach [] X.env := by rfl) (hpl : (backTo pos (starEach [] X.env)).any (·.1) = false := by rfl) : QE cl W X (.Call (.Name "len" p) [a] [] pos) (eCall lenD fs) := qe_callB call_lenA ok_len hg hm PySem.boot_len ha (by decide) (by decide) he hpl
theorem qe_intOf (hg : Gl X "int") (hm : X.mg "int" = none) (ha : QA cl W X [a] (eArgs fs)) (he : starEach [a] X.env = (false, eval a X.env) :: starEach [] X.env := by rfl) (hpl : (backTo pos (starEach [] X.env)).any (·.1) = false := by rfl) : QE cl W X (.Call (.Name "int" p) [a] [] pos) (eCall int1D fs) := qe_callT call_int1 ok_int1 hg hm (by decide +kernel) ha (by decide) (by decide) he hpl
theorem qe_tuple (hg : Gl X "tuple") (hm : X.mg "tuple" = none) (ha : QA cl W X [a] (eArgs fs)) (he : starEach [a] X.env = (false, eval a X.env) :: starEach [] X.env := by rfl) (hpl : (backTo pos (starEach [] X.env)).any (·.1) = false := by rfl) : QE cl W X (.Call (.Name "tuple" p) [a] [] pos) (eCall tupD fs) := qe_callT cr_tupleF ok_tup hg hm (by decide +kernel) ha (by decide) (by decide) he hpl
theorem qe_all (hc : X.calm = true) (hg : Gl X "all") (hm : X.mg "all" = none) (ha : QA cl W X [a] (eArgs fs)) (he : starEach [a] X.env = (false, eval a X.env) :: starEach [] X.env := by rfl) (hpl : (backTo pos (starEach [] X.env)).any (·.1) = false := by rfl) : QE cl W X (.Call (.Name "all" p) [a] [] pos) (eCall (boolsD fun bs => bs.all _root_.id) fs) := qe_callB (cr_all hc) ok_all hg hm (by decide +kernel) ha (by decide) (by decide) he hpl
theorem qe_any (hc : X.calm = true) (hg : Gl X "any") (hm : X.mg "any" = none) (ha : QA cl W X [a] (eArgs fs)) (he : starEach [a] X.env = (false, eval a X.env) :: starEach [] X.env := by rfl) (hpl : (backTo pos (starEach [] X.env)).any (·.1) = false := by rfl) : QE cl W X (.Call (.Name "any" p) [a] [] pos) (eCall (boolsD fun bs => bs.any _root_.id) fs) := qe_callB (cr_any hc) ok_any hg hm (by decide +kernel) ha (by decide) (by decide) he hpl
theorem qe_sum (hc : X.calm = true) (hg : Gl X "sum") (hm : X.mg "sum" = none) (ha : QA cl W X [a] (eArgs fs)) (he : starEach [a] X.env = (false, eval a X.env) :: starEach [] X.env := by rfl) (hpl : (backTo pos (starEach [] X.env)).any (·.1) = false := by rfl) : QE cl W X (.Call (.Name "sum" p) [a] [] pos) (eCall (intsD fun ns => .int ns.sum) fs) := qe_callB (cr_sum hc) ok_sum hg hm (by decide +kernel) ha (by decide) (by decide) he hpl
theorem qe_abs (hg : Gl X "abs") (hm : X.mg "abs" = none) (ha : QA cl W X [a] (eArgs fs)) (he : starEach [a] X.env = (false, eval a X.env) :: starEach [] X.env := by rfl) (hpl : (backTo pos (starEach [] X.env)).any (·.1) = false := by rfl) : QE cl W X (.Call (.Name "abs" p) [a] [] pos) (eCall absD fs) := qe_callB call_abs ok_abs hg hm (by decide +kernel) ha (by decide) (by decide) he hpl
theorem qe_max2 (hc : X.calm = true) (hg : Gl X "max") (hm : X.mg "max" = none) (ha : QA cl W X [a, b] (eArgs fs)) (he : starEach [a, b] X.env = (false, eval a X.env) :: starEach [b] X.env := by rfl) (hpl : (backTo pos (starEach [b] X.env)).any (·.1) = false := by rfl) : QE cl W X (.Call (.Name "max" p) [a, b] [] pos) (eCall (ii2D maxI) fs) := qe_callB (call_max2 hc) (ok_ii2 fun i j H Q q => ⟨i, j, rfl, q⟩) hg hm (by decide +kernel) ha (by decide) (by decide) he hpl
theorem qe_min2 (hc : X.calm = true) (hg : Gl X "min") (hm : X.mg "min" = none) (ha : QA cl W X [a, b] (eArgs fs)) (he : starEach [a, b] X.env = (false, eval a X.env) :: starEach [b] X.env := by rfl) (hpl : (backTo pos (starEach [b] X.env)).any (·.1) = false := by rfl) : QE cl W X (.Call (.Name "min" p) [a, b] [] pos) (eCall (ii2D minI) fs) := qe_callB (call_min2 hc) (ok_ii2 fun i j H Q q => ⟨i, j, rfl, q⟩) hg hm (by decide +kernel) ha (by decide) (by decide) he hpl
theorem qn_list (hg : Gl X "list") (hm : X.mg "list" = none) (ha : QE cl W X a f) (h0 : starEach [a] X.env = (false, eval a X.env) :: starEach [] X.env := by rfl) (hpl : (backTo pos (starEach [] X.env)).any (·.1) = false := by rfl) : QN cl W X (.Call (.Name "list" p) [a] [] pos) (nListOf f) :=
  (pe_callTy call_list_of hg hm (by decide +kernel) (qa_cons ha qa_nil h0) (by decide) (by decide) h0 hpl).imp fun σ H Q ⟨am, e, S, rs, re, p⟩ =>
    ⟨am, e, S, rs, re, (PostN.step p).imp fun xs H1 ⟨am1, S1, ds, ee, g1, rs1, rvs, p1⟩ => by
      cases rvs with
      | nil => exact p1.elim
      | @cons d v ds vs r1 r2 =>
        cases r2 with
        | cons _ _ => exact p1.elim
        | nil =>
          simp only at p1
          cases q : sqOf S1 d with
          | none => rw [q] at p1; exact p1.elim
          | some ys =>
            rw [q] at p1
            obtain ⟨a, us, ev, q1, q2⟩ := sqOf_ok rs1 r1 q
            subst ev
            exact ⟨a, us, rfl, q1, fun l hl => PostN.laid p1 g1 rs1 hl ⟨us, upd_same, q2.mono (Grow.resv hl)⟩⟩⟩
def tyD (S : Sto) : D → Option String
  | .non => some "NoneType"
  | .bl _ => some "bool"
  | .int _ => some "int"
  | .str _ => some "str"
  | .tup _ => some "tuple"
  | .tpi _ => some "tuple"
  | .lst _ => some "list"
  | .fls _ => some "list"
  | .dct _ => some "dict"
  | .ref k => match S[k]? with
    | some (.lst _) => some "list"
    | some (.dct _) => some "dict"
    | _ => none
def isTy (a T : String) : Bool := a == T || (a == "bool" && T == "int")
theorem tyD_ok {K : PySem.W.Frag} {am : AM} {S : Sto} {H : Hp} {d : D} {v : V} {t : String} (rs : RelS K cl am S H) (h : VR K am H d v) (e : tyD S d = some t) : TyX K H v (.type t) ∧ t ∈ ["NoneType", "bool", "int", "str", "tuple", "list", "dict"] := by
  cases h with
  | non => cases e; exact ⟨.base .non, by decide⟩
  | bl b => cases e; exact ⟨.base (.bl b), by decide⟩
  | int i => cases e; exact ⟨.base (.int i), by decide⟩
  | str x => cases e; exact ⟨.base (.str x), by decide⟩
  | tup h hs =>
    cases e
    refine ⟨?_, by decide⟩
    rcases h with ⟨o, h, _⟩ | ⟨o, its, n, hk, hc, _⟩
    · exact .fTuple h
    · exact .kTuple hk hc
  | tpi h hs =>
    cases e
    refine ⟨?_, by decide⟩
    rcases h with ⟨h | ⟨o, h⟩, _⟩
    · exact .base (.tup h)
    · exact .fTuple h
  | lst h _ _ => cases e; exact ⟨.base (.lst h), by decide⟩
  | fls h _ =>
    cases e
    refine ⟨?_, by decide⟩
    rcases h with ⟨h | ⟨o, h⟩, _⟩ | ⟨o, its, n, hk, hc, _⟩
    · exact .base (.lst h)
    · exact .base (.frz h)
    · exact .kList hk hc
  | dct h _ _ => cases e; exact ⟨.base (.dK h), by decide⟩
  | @ref k a hk =>
    simp only [tyD] at e
    cases q : S[k]? with
    | none => rw [q] at e; cases e
    | some o =>
      rw [q] at e
      cases o with
      | lst xs => cases e; obtain ⟨vs, h, _⟩ := rs.ob k _ a q hk; exact ⟨.base (.lst h), by decide⟩
      | dct xs => cases e; obtain ⟨vs, h, _⟩ := rs.ob k _ a q hk; exact ⟨.base (.dK h), by decide⟩
      | ins c fs => cases e
theorem kitB_ok : ∀ t ∈ ["NoneType", "bool", "int", "str", "tuple", "list", "dict"], ∀ T ∈ ["bool", "int", "str", "tuple", "list", "dict"], kitB t T = some (isTy t T) := by decide +kernel
def isD (T : String) (d : D) (S : Sto) : Res D := match tyD S d with
  | some t => .ok (.bl (isTy t T)) S
  | none => .bad
/-- a built-in class as an argument -/
theorem qe_is {T : Str} {T' : String} {pT : Pos} (hT : T' ∈ ["bool", "int", "str", "tuple", "list", "dict"]) (hg : Gl X "isinstance") (hm : X.mg "isinstance" = none) (hgT : Gl X T) (hmT : X.mg T = none) (hvT : bootBuiltins T = some (.type T')) (ha : QE cl W X a f)
    (h0 : starEach [a, .Name T pT] X.env = (false, eval a X.env) :: starEach [.Name T pT] X.env := by rfl) (h1 : starEach [.Name T pT] X.env = (false, eval (.Name T pT) X.env) :: starEach [] X.env := by rfl) (hpl : (backTo pos (starEach [.Name T pT] X.env)).any (·.1) = false := by rfl)
    (hn : T ≠ "__name__" := by decide) (hd : (T == ("__debug__" : Str)) = false := by decide) : QE cl W X (.Call (.Name "isinstance" p) [a, .Name T pT] [] pos) (e1 (isD T') f) :=
  (pe_callB call_isi hg hm (by decide +kernel) (pa_cons ha (pa_cons (pe_bltn (v := .ty T') hgT hmT hvT rfl hn hd) pa_nil h1) h0) (by decide) (by decide) h0 hpl).imp fun σ H Q ⟨am, e, S, rs, re, p⟩ =>
    ⟨am, e, S, rs, re, (Post.step p).imp fun x H1 ⟨am1, S1, d, _, g1, rs1, rv, p1⟩ => by
      unfold isD at p1
      cases q : tyD S1 d with
      | none => rw [q] at p1; exact p1.elim
      | some t =>
        rw [q] at p1
        obtain ⟨h1, h2⟩ := tyD_ok rs1 rv q
        exact ⟨x, .ty T', _, _, isTy t T', rfl, .ty T', h1, kit_ty (kitB_ok t h2 T' hT), p1 am1 _ H1 .refl rs1 (.bl _)⟩⟩
end

section
variable {K : PySem.W.Frag} {cl : Str → Addr}
theorem law_sp {F : List D → Sto → Res D} (h : ∀ ns : List Int, ns.length ≤ 63 → ∃ S, F [.fls (ns.map D.int)] [] = .ok (.bl true) S) (H : Hp) (a : Addr) (ns : List Int) (hl : ns.length ≤ 63) (hs : SqL K H a (ns.map V.int)) :
    SpD K cl 1 F [.ref a] H (fun v _ => v = .bl true) (fun _ _ _ => False) := by
  obtain ⟨S, e⟩ := h ns hl
  refine ⟨⟨[], [], fun _ h => h⟩, [.fls (ns.map D.int)], [], rfl, ⟨rfl, .nil, fun k o a h => by simp at h, fun a h => by simp at h⟩, .cons (.fls (vs := ns.map V.int) ?_ ?_) .nil, ?_⟩
  · rcases hs with hs | hs
    · exact .inl ⟨hs, by simp⟩
    · exact .inr hs
  · clear e hl hs h
    induction ns with
    | nil => exact .nil
    | cons n ns ih => exact .cons (.int n) ih
  · rw [e]
    intro am' v H' g rs rv
    cases rv
    rfl
theorem cx_no {P : Program} {w : World} {o : List PySem.Env} {H : Hp} {s : Shared} {e : Value} {s' : Shared} (h : L2N.CX P w o H s (fun _ _ _ => False) e s') : False := by
  obtain ⟨_, _, _, _, _, _, _, _, _, _, _, _, z⟩ := h
  exact z
end
end Pu
set_option Elab.async false
set_option linter.all false
set_option maxRecDepth 100000
namespace Pu
open PySem PySem.Spec PyProof.Rows L2
section
variable {α : Type} {e : En} {S : Sto} {f g h : Ev D} {fs : List (Ev D)} {a b c : Stm} {s t : Ev Bool}
@[simp] theorem ap_C {d : D} : eC d e S = .ok d S := id rfl
theorem ap_Var {i : Nat} {d : D} (h : e[i]? = some (some d)) : eVar i e S = .ok d S := by simp [eVar, h]
@[simp] theorem ap_Var0 {d : D} {r : En} : eVar 0 (some d :: r) S = .ok d S := id rfl
@[simp] theorem ap_VarS {i : Nat} {x : Option D} {r : En} : eVar (i + 1) (x :: r) S = eVar i r S := by simp [eVar]
@[simp] theorem ap_1 {o : D → Sto → Res D} : e1 o f e S = (f e S).bind fun x S => o x S := id rfl
@[simp] theorem ap_2 {o : D → D → Sto → Res D} : e2 o f g e S = (f e S).bind fun x S => (g e S).bind fun y S => o x y S := id rfl
@[simp] theorem ap_TB : eTB f e S = (f e S).bind toB := id rfl
@[simp] theorem ap_Ch {o o' : D → D → Sto → Res D} : eCh o o' f g h e S = (f e S).bind fun x S => (g e S).bind fun y S => (o x y S).bind fun z S => (toB z S).bind fun k S => if k = true then (h e S).bind fun w S => o' y w S else .ok (.bl false) S := id rfl
@[simp] theorem ap_tAnd : tAndD s t e S = (s e S).bind fun b S => if b = true then t e S else .ok false S := id rfl
@[simp] theorem ap_tOr : tOrD s t e S = (s e S).bind fun b S => if b = true then .ok true S else t e S := id rfl
@[simp] theorem ap_tNot : tNotD s e S = (s e S).bind fun b S => .ok (!b) S := id rfl
@[simp] theorem ap_eAnd : eAndD f g e S = (f e S).bind fun d S => (toB d S).bind fun b S => if b = true then g e S else .ok (.bl false) S := id rfl
@[simp] theorem ap_eOr : eOrD f g e S = (f e S).bind fun d S => (toB d S).bind fun b S => if b = true then .ok (.bl true) S else g e S := id rfl
@[simp] theorem ap_eNot : eNotD f e S = (f e S).bind fun d S => (toB d S).bind fun b S => .ok (.bl (!b)) S := id rfl
@[simp] theorem ap_eIf : eIf t f g e S = (t e S).bind fun b S => if b = true then f e S else g e S := id rfl
@[simp] theorem ap_Tr : eTr f e S = (f e S).bind truD := id rfl
@[simp] theorem ap_Args0 : eArgs [] e S = .ok [] S := id rfl
@[simp] theorem ap_Args : eArgs (f :: fs) e S = (f e S).bind fun x S => (eArgs fs e S).bind fun xs S => .ok (x :: xs) S := id rfl
@[simp] theorem ap_Tup : eTup fs e S = (eArgs fs e S).bind fun xs S => .ok (.tup xs) S := id rfl
@[simp] theorem ap_Call {op : List D → Sto → Res D} : eCall op fs e S = (eArgs fs e S).bind op := id rfl
@[simp] theorem ap_Fn {op : List D → Sto → Res D} : eFn op fs e S = (eArgs fs e S).bind op := id rfl
@[simp] theorem ap_nLst : nLst fs e S = (eArgs fs e S).bind fun xs S => .ok (.lst xs) S := id rfl
@[simp] theorem ap_nDct0 : nDct0 e S = .ok (.dct []) S := id rfl
@[simp] theorem ap_Ano {n : Ev DO} : eAno n e S = (n e S).bind anoD := id rfl
@[simp] theorem ap_New {n : Ev DO} : eNew n e S = (n e S).bind fun o S => .ok (.ref S.length) (S ++ [o]) := id rfl
@[simp] theorem ap_M {T : String} {op : D → List D → Sto → Res D} : eM T op f fs e S = (f e S).bind fun o S => if isT T o S then (eArgs fs e S).bind fun ds S => op o ds S else .bad := id rfl
@[simp] theorem ap_Sl {p q : Ev (Option Int)} : eSl f p q e S = (f e S).bind fun d S => (p e S).bind fun lo S => (q e S).bind fun hi S => slD d lo hi S := id rfl
@[simp] theorem ap_pN : pN e S = .ok none S := id rfl
@[simp] theorem ap_pE : pE f e S = (f e S).bind fun d S => match d with
  | .int i => .ok (some i) S
  | _ => .bad := rfl
@[simp] theorem ap_yes : tYesD e S = .ok true S := id rfl
@[simp] theorem ap_Set {i : Nat} : sSet i f e S = (f e S).stm e fun d S => .next (e.set i (some d)) S := id rfl
@[simp] theorem ap_Ret : sRet f e S = (f e S).stm e fun d S => .ret d S := id rfl
@[simp] theorem ap_Expr : sExpr f e S = (f e S).stm e fun _ S => .next e S := id rfl
@[simp] theorem ap_Next : sNext e S = .next e S := id rfl
@[simp] theorem ap_Brk : sBrk e S = .brk e S := id rfl
@[simp] theorem ap_Seq : sSeq a b e S = (a e S).seq b := id rfl
@[simp] theorem ap_If : sIf t a b e S = (t e S).stm e fun k S => if k = true then a e S else b e S := id rfl
@[simp] theorem ap_St : sSt f g h e S = (f e S).stm e fun v S => (g e S).stm e fun o S => (h e S).stm e fun i S => match stD o i v S with
  | some S' => .next e S'
  | none => .bad := rfl
@[simp] theorem ap_Asg {tg : Tg} : sAsg tg f e S = (f e S).stm e fun d S => match bindT tg d e with
  | some e' => .next e' S
  | none => .bad := rfl
@[simp] theorem ap_Aug {op : D → D → Sto → Res D} {i : Nat} : sAug op i f e S = (eVar i e S).stm e fun x S => (f e S).stm e fun y S => (op x y S).stm e fun z S => .next (e.set i (some z)) S := id rfl
def fgtR (vs : List Nat) (r : SRes) : SRes := match r with
  | .next e S => .next (wipeE e vs) S
  | r => r
@[simp] theorem ap_Fgt {vs : List Nat} : sFgt vs a e S = fgtR vs (a e S) := id rfl
@[simp] theorem fgt_next {vs : List Nat} : fgtR vs (.next e S) = .next (wipeE e vs) S := id rfl
@[simp] theorem fgt_ret {vs : List Nat} {d : D} : fgtR vs (.ret d S) = .ret d S := id rfl
@[simp] theorem fgt_brk {vs : List Nat} : fgtR vs (.brk e S) = .brk e S := id rfl
@[simp] theorem fgt_bad {vs : List Nat} : fgtR vs .bad = .bad := id rfl
@[simp] theorem ap_For {dead : List Nat} {tg : Tg} {it : Ev Src} : sFor dead tg it a e S = (it e S).stm e fun src S => forD dead tg src a src.items e S := id rfl
@[simp] theorem ap_iL : iL f e S = (f e S).bind srcL := id rfl
@[simp] theorem ap_iT : iT f e S = (f e S).bind srcT := id rfl
@[simp] theorem ap_iR1 : iR1 f e S = (f e S).bind fun x S => srcR1 [x] S := by
  unfold iR1
  simp only [ap_Args, ap_Args0]
  cases f e S <;> rfl
@[simp] theorem ap_iR2 : iR2 f g e S = (f e S).bind fun x S => (g e S).bind fun y S => srcR2 [x, y] S := by
  unfold iR2
  simp only [ap_Args, ap_Args0]
  cases f e S with
  | ok a S1 => simp only [Res.bind_ok]; cases g e S1 <;> rfl
  | exc c S1 => rfl
  | bad => rfl
@[simp] theorem ap_Lc {vs : List Nat} {tg : Tg} {it : Ev Src} : nLc vs tg it t f e S = (it e S).bind fun src S => if src.items.length ≤ sizeLine then (lcD tg src t f (wipeE e vs) src.items S).bind fun ds S => .ok (.lst ds) S else .bad := id rfl
@[simp] theorem wipe_nil : wipeE e [] = e := id rfl
@[simp] theorem wipe_cons {v : Nat} {vs : List Nat} : wipeE e (v :: vs) = (wipeE e vs).set v none := id rfl
@[simp] theorem bindT_nm {i : Nat} {d : D} : bindT (.nm i) d e = some (e.set i (some d)) := id rfl
@[simp] theorem bindT_tp {ts : List Tg} {ds : List D} : bindT (.tp ts) (.tup ds) e = bindTs ts ds e := id rfl
@[simp] theorem bindT_tpi {ts : List Tg} {ds : List D} : bindT (.tp ts) (.tpi ds) e = bindTs ts ds e := id rfl
@[simp] theorem bindTs_nil : bindTs [] [] e = some e := id rfl
@[simp] theorem bindTs_cons {t : Tg} {ts : List Tg} {d : D} {ds : List D} : bindTs (t :: ts) (d :: ds) e = (bindT t d e).bind fun e => bindTs ts ds e := id rfl
/-- operations -/
@[simp] theorem addD_int {i j : Int} : addD (.int i) (.int j) S = .ok (.int (i + j)) S := id rfl
@[simp] theorem addD_tup {i j : List D} : addD (.tup i) (.tup j) S = if i.length + j.length ≤ sizeLine then .ok (.tup (i ++ j)) S else .bad := id rfl
@[simp] theorem addD_str {i j : Str} : addD (.str i) (.str j) S = if i.length + j.length ≤ sizeLine then .ok (.str (i ++ j)) S else .bad := id rfl
@[simp] theorem mulD_int {i j : Int} : mulD (.int i) (.int j) S = if FitMul i j then .ok (.int (i * j)) S else .bad := id rfl
@[simp] theorem negD_int {i : Int} : negD (.int i) S = .ok (.int (-i)) S := id rfl
@[simp] theorem isND_ap {neg : Bool} {d : D} : isND neg d S = .ok (.bl (if neg = true then !d.isN else d.isN)) S := id rfl
@[simp] theorem isN_non : D.non.isN = true := id rfl
@[simp] theorem isN_int {i : Int} : (D.int i).isN = false := id rfl
@[simp] theorem isN_tup {i : List D} : (D.tup i).isN = false := id rfl
@[simp] theorem isN_str {i : Str} : (D.str i).isN = false := id rfl
@[simp] theorem truD_bl {b : Bool} : truD (.bl b) S = .ok b S := id rfl
@[simp] theorem truD_int {i : Int} : truD (.int i) S = .ok (i != 0) S := id rfl
@[simp] theorem lenD_tup {xs : List D} : lenD [.tup xs] S = .ok (.int xs.length) S := id rfl
@[simp] theorem lenD_lst {xs : List D} : lenD [.lst xs] S = .ok (.int xs.length) S := id rfl
@[simp] theorem lenD_fls {xs : List D} : lenD [.fls xs] S = .ok (.int xs.length) S := id rfl
theorem lenD_ref {k : Nat} {xs : List D} (h : S[k]? = some (.lst xs)) : lenD [.ref k] S = .ok (.int xs.length) S := by
  simp [lenD, dcOf, sqOf, lsOf, h]
@[simp] theorem int1_int {i : Int} : int1D [.int i] S = .ok (.int i) S := id rfl
@[simp] theorem int1_bl {b : Bool} : int1D [.bl b] S = .ok (.int (if b then 1 else 0)) S := id rfl
@[simp] theorem tupD_tup {xs : List D} : tupD [.tup xs] S = .ok (.tup xs) S := id rfl
@[simp] theorem tupD_lst {xs : List D} : tupD [.lst xs] S = .ok (.tup xs) S := id rfl
theorem tupD_ref {k : Nat} {xs : List D} (h : S[k]? = some (.lst xs)) : tupD [.ref k] S = .ok (.tup xs) S := by
  simp [tupD, sqOf, lsOf, h]
@[simp] theorem ixD_tup {xs : List D} {j : Int} : ixD (.tup xs) (.int j) S = opt (atI xs j) S := id rfl
@[simp] theorem ixD_lst {xs : List D} {j : Int} : ixD (.lst xs) (.int j) S = opt (atI xs j) S := id rfl
@[simp] theorem ixD_fls {xs : List D} {j : Int} : ixD (.fls xs) (.int j) S = opt (atI xs j) S := id rfl
theorem ixD_ref {k : Nat} {xs : List D} {j : Int} (h : S[k]? = some (.lst xs)) : ixD (.ref k) (.int j) S = opt (atI xs j) S := by
  simp [ixD, dcOf, sqOf, lsOf, h]
@[simp] theorem srcT_tup {xs : List D} : srcT (.tup xs) S = .ok (.tmp xs) S := id rfl
@[simp] theorem srcL_lst {xs : List D} : srcL (.lst xs) S = .ok (.tmp xs) S := id rfl
@[simp] theorem srcL_fls {xs : List D} : srcL (.fls xs) S = .ok (.tmp xs) S := id rfl
theorem srcL_ref {k : Nat} {xs : List D} (h : S[k]? = some (.lst xs)) : srcL (.ref k) S = .ok (.st k xs) S := by
  simp [srcL, h]
theorem stD_lst {k : Nat} {xs : List D} {j : Int} {v : D} {n : Nat} (h : S[k]? = some (.lst xs)) (hn : ixN xs.length j = some n) : stD (.ref k) (.int j) v S = some (S.set k (.lst (xs.set n v))) := by
  simp [stD, h, hn]
theorem appD_ref {k : Nat} {xs : List D} {y : D} (h : S[k]? = some (.lst xs)) (hl : xs.length < sizeLine) : appD (.ref k) [y] S = .ok .non (S.set k (.lst (xs ++ [y]))) := by
  simp [appD, h, hl]
theorem isT_ref {k : Nat} {xs : List D} (h : S[k]? = some (.lst xs)) : isT "list" (.ref k) S := by
  simp [isT, lsOf, h]
end
/-- by its place -/
theorem atI_of {α : Type} {xs : List α} {j : Int} {n : Nat} {v : α} (h : j = (n : Int)) (e : xs[n]? = some v) : atI xs j = some v := by
  subst h
  exact atI_nat e
theorem startE_1 {n : Nat} {a : D} : startE (n + 1) [a] = some a :: List.replicate n none := rfl
theorem fin_frz {S S' : Sto} {d : D} (hc : Clo S S') (h : d.gnd = true) : fin .frz S d S' = .ok d (S'.take S.length) := by
  simp only [fin]
  rw [if_pos hc]
  unfold frzV
  rw [if_pos (gnd_below _ d h)]
  rfl
theorem Clo.refl {S : Sto} : Clo S S := ⟨Nat.le_refl _, fun k o hk h => .inl h⟩
theorem Clo.app {S T : Sto} : Clo S (S ++ T) := ⟨by simp, fun k o hk h => .inl (by rw [List.getElem?_append_left hk] at h; exact h)⟩
theorem fin_same {S : Sto} {d : D} (h : d.gnd = true) : fin .frz S d S = .ok d S := by
  rw [fin_frz .refl h, List.take_length]
theorem fin_app {S T : Sto} {d : D} (h : d.gnd = true) : fin .frz S d (S ++ T) = .ok d S := by
  rw [fin_frz .app h, List.take_left]
theorem Clo.set {S T : Sto} {k : Nat} {o : DO} (h : o.bel S.length = true) : Clo S (S.set k o ++ T) := ⟨by simp, fun j u hj e => by
  rw [List.getElem?_append_left (by simpa using hj)] at e
  by_cases hk : k = j
  · subst hk
    rw [List.getElem?_set_self hj] at e
    cases e
    exact .inr h
  · rw [List.getElem?_set_ne hk] at e
    exact .inl e⟩
theorem fin_set {S T : Sto} {d : D} {k : Nat} {o : DO} (h : d.gnd = true) (ho : o.bel S.length = true) : fin .frz S d (S.set k o ++ T) = .ok d (S.set k o) := by
  rw [fin_frz (.set ho) h]
  have : (S.set k o).length = S.length := by simp
  rw [← this, List.take_left]
theorem fin_set0 {S : Sto} {d : D} {k : Nat} {o : DO} (h : d.gnd = true) (ho : o.bel S.length = true) : fin .frz S d (S.set k o) = .ok d (S.set k o) := by
  have := fin_set (T := []) (S := S) (k := k) h ho
  simpa using this
@[simp] theorem retD_ret {m : Md} {S S' : Sto} {d : D} : retD m S (.ret d S') = fin m S d S' := id rfl
@[simp] theorem retD_next {m : Md} {S S' : Sto} {e : En} : retD m S (.next e S') = fin m S .non S' := id rfl
@[simp] theorem gnd_non : D.non.gnd = true := id rfl
@[simp] theorem gnd_bl {b : Bool} : (D.bl b).gnd = true := id rfl
@[simp] theorem gnd_int {b : Int} : (D.int b).gnd = true := id rfl
@[simp] theorem gnd_str {b : Str} : (D.str b).gnd = true := id rfl
@[simp] theorem gnd_tup {xs : List D} : (D.tup xs).gnd = gnds xs := id rfl
@[simp] theorem gnd_lst {xs : List D} : (D.lst xs).gnd = gnds xs := id rfl
@[simp] theorem gnd_fls {xs : List D} : (D.fls xs).gnd = gnds xs := id rfl
@[simp] theorem gnds_nil : gnds [] = true := id rfl
@[simp] theorem gnds_cons {x : D} {xs : List D} : gnds (x :: xs) = (x.gnd && gnds xs) := id rfl
theorem gnds_all : ∀ xs : List D, gnds xs = xs.all D.gnd
  | [] => rfl
  | x :: xs => by rw [gnds_cons, List.all_cons, gnds_all xs]
@[simp] theorem gnds_app {xs ys : List D} : gnds (xs ++ ys) = (gnds xs && gnds ys) := by simp [gnds_all]
theorem gnds_map {α : Type} {f : α → D} (h : ∀ x, (f x).gnd = true) (xs : List α) : gnds (xs.map f) = true := by simp [gnds_all, h]
@[simp] theorem gnds_ints (xs : List Int) : gnds (xs.map D.int) = true := gnds_map (fun _ => rfl) xs
@[simp] theorem bel_lstO {n : Nat} {xs : List D} : (DO.lst xs).bel n = belows n xs := id rfl
@[simp] theorem belows_nil {n : Nat} : belows n [] = true := id rfl
@[simp] theorem belows_cons {n : Nat} {x : D} {xs : List D} : belows n (x :: xs) = (x.bel n && belows n xs) := id rfl
@[simp] theorem bel_int {n : Nat} {i : Int} : (D.int i).bel n = true := id rfl
theorem atI_cast {α : Type} {xs : List α} {n : Nat} : atI xs (n : Int) = xs[n]? := by
  by_cases h : n < xs.length
  · rw [List.getElem?_eq_getElem h]
    exact atI_nat (List.getElem?_eq_getElem h)
  · rw [List.getElem?_eq_none (by omega)]
    unfold atI ixN
    rw [if_pos (by omega), if_neg (by omega)]
    rfl
@[simp] theorem atI_0 {α : Type} {xs : List α} : atI xs 0 = xs[0]? := atI_cast (n := 0)
@[simp] theorem atI_1 {α : Type} {xs : List α} : atI xs 1 = xs[1]? := atI_cast (n := 1)
@[simp] theorem atI_2 {α : Type} {xs : List α} : atI xs 2 = xs[2]? := atI_cast (n := 2)
@[simp] theorem atI_3 {α : Type} {xs : List α} : atI xs 3 = xs[3]? := atI_cast (n := 3)
@[simp] theorem atI_4 {α : Type} {xs : List α} : atI xs 4 = xs[4]? := atI_cast (n := 4)
@[simp] theorem atI_m1 {α : Type} {xs : List α} : atI xs (-1) = xs.getLast? := by
  rcases List.eq_nil_or_concat xs with h | ⟨ys, y, h⟩
  · subst h; rfl
  · subst h
    rw [List.concat_eq_append, atI_last]
    simp
theorem modD_pos {i j : Int} {S : Sto} (h : 0 < j) : modD (.int i) (.int j) S = .ok (.int (i % j)) S := by
  simp [fmodI, h]
  omega
theorem fdivD_pos {i j : Int} {S : Sto} (h : 0 < j) (hl : j.natAbs.log2 < 9000) : fdivD (.int i) (.int j) S = .ok (.int (i / j)) S := by
  simp [fdivI, DivOk, h, hl]
@[simp] theorem startE_a1 {n : Nat} {a : D} : startE (n + 1) [a] = some a :: List.replicate n none := id rfl
@[simp] theorem startE_a2 {n : Nat} {a b : D} : startE (n + 2) [a, b] = some a :: some b :: List.replicate n none := id rfl
@[simp] theorem startE_a3 {n : Nat} {a b c : D} : startE (n + 3) [a, b, c] = some a :: some b :: some c :: List.replicate n none := id rfl
@[simp] theorem startE_a4 {n : Nat} {a b c d : D} : startE (n + 4) [a, b, c, d] = some a :: some b :: some c :: some d :: List.replicate n none := id rfl
end Pu
set_option Elab.async false
set_option linter.all false
set_option maxRecDepth 100000
namespace Pu
open PySem PySem.Spec PyProof.Rows L2
/-- what a turn leaves -/
def aft (dead : List Nat) (r : SRes) : SRes := match r with
  | .next e2 S2 => .next (wipeE e2 dead) S2
  | .cnt e2 S2 => .next (wipeE e2 dead) S2
  | r => r
@[simp] theorem aft_next {dead : List Nat} {e : En} {S : Sto} : aft dead (.next e S) = .next (wipeE e dead) S := id rfl
@[simp] theorem aft_cnt {dead : List Nat} {e : En} {S : Sto} : aft dead (.cnt e S) = .next (wipeE e dead) S := id rfl
@[simp] theorem aft_brk {dead : List Nat} {e : En} {S : Sto} : aft dead (.brk e S) = .brk e S := id rfl
@[simp] theorem aft_ret {dead : List Nat} {d : D} {S : Sto} : aft dead (.ret d S) = .ret d S := id rfl
/-- one turn of a for -/
def turn (dead : List Nat) (tg : Tg) (body : Stm) (x : D) (e : En) (S : Sto) : SRes := match bindT tg x e with
  | none => .bad
  | some e1 => aft dead (body e1 S)
section
variable {dead : List Nat} {tg : Tg} {src : Src} {body : Stm} {e : En} {S : Sto}
theorem forD_nil (h : src.ok S) : forD dead tg src body [] e S = .next e S := by
  unfold forD
  rw [if_pos h]
theorem forD_cons {x : D} {xs : List D} (h : src.ok S) : forD dead tg src body (x :: xs) e S = match turn dead tg body x e S with
    | .next e2 S2 => forD dead tg src body xs e2 S2
    | .brk e2 S2 => .next e2 S2
    | .cnt e2 S2 => .cnt e2 S2
    | r => r := by
  conv => lhs; unfold forD
  rw [if_pos h]
  unfold turn
  cases bindT tg x e with
  | none => rfl
  | some e1 =>
    simp only [aft]
    cases body e1 S <;> rfl
/-- every turn goes on -/
theorem for_inv (I : Nat → En → Sto → Prop) (ok : ∀ n e S, I n e S → src.ok S) : ∀ (xs : List D) (k : Nat) (e : En) (S : Sto), I k e S →
    (∀ (n : Nat) (e : En) (S : Sto) (x : D), xs[n]? = some x → I (k + n) e S → ∃ e' S', turn dead tg body x e S = .next e' S' ∧ I (k + n + 1) e' S') →
    ∃ e' S', forD dead tg src body xs e S = .next e' S' ∧ I (k + xs.length) e' S'
  | [], k, e, S, h0, _ => ⟨e, S, forD_nil (ok _ _ _ h0), h0⟩
  | x :: xs, k, e, S, h0, h => by
    obtain ⟨e1, S1, q1, h1⟩ := h 0 e S x rfl h0
    obtain ⟨e2, S2, q2, h2⟩ := for_inv I ok xs (k + 1) e1 S1 h1 fun n e S y hy hI => by
      have := h (n + 1) e S y (by simpa using hy)
      rw [show k + (n + 1) = k + 1 + n by omega] at this
      exact this hI
    refine ⟨e2, S2, ?_, by rw [List.length_cons, show k + (xs.length + 1) = k + 1 + xs.length by omega]; exact h2⟩
    rw [forD_cons (ok _ _ _ h0), q1]
    exact q2
/-- .. from the first, over data that stand still -/
theorem for_inv0 {ys : List D} (I : Nat → En → Sto → Prop) {xs : List D} (h0 : I 0 e S) (h : ∀ (n : Nat) (e : En) (S : Sto) (x : D), xs[n]? = some x → I n e S → ∃ e' S', turn dead tg body x e S = .next e' S' ∧ I (n + 1) e' S') :
    ∃ e' S', forD dead tg (.tmp ys) body xs e S = .next e' S' ∧ I xs.length e' S' := by
  obtain ⟨e', S', q, h'⟩ := for_inv (src := .tmp ys) I (fun _ _ _ _ => trivial) xs 0 e S h0 (fun n e S x hx hI => by
    rw [Nat.zero_add] at hI ⊢
    exact h n e S x hx hI)
  rw [Nat.zero_add] at h'
  exact ⟨e', S', q, h'⟩
/-- a fold: en, so tell the slots and the store of a state -/
theorem for_fold {ι σ : Type} {ys : List D} (f : ι → D) (en : σ → En) (so : σ → Sto) (step : σ → ι → σ) (J : Nat → σ → Prop) : ∀ (xs : List ι) (k : Nat) (s : σ), J k s →
    (∀ (n : Nat) (s : σ) (x : ι), x ∈ xs → J n s → turn dead tg body (f x) (en s) (so s) = .next (en (step s x)) (so (step s x)) ∧ J (n + 1) (step s x)) →
    forD dead tg (.tmp ys) body (xs.map f) (en s) (so s) = .next (en (xs.foldl step s)) (so (xs.foldl step s)) ∧ J (k + xs.length) (xs.foldl step s)
  | [], k, s, h0, _ => ⟨forD_nil trivial, h0⟩
  | x :: xs, k, s, h0, h => by
    obtain ⟨q1, h1⟩ := h k s x List.mem_cons_self h0
    obtain ⟨q2, h2⟩ := for_fold f en so step J xs (k + 1) (step s x) h1 fun n s y hy => h n s y (List.mem_cons_of_mem _ hy)
    refine ⟨?_, by rw [List.length_cons, show k + (xs.length + 1) = k + 1 + xs.length by omega]; exact h2⟩
    rw [List.map_cons, forD_cons (src := .tmp ys) trivial, q1]
    exact q2
/-- a search: a turn goes on as it was, or ends the def -/
theorem for_find {ι : Type} {ys : List D} (f : ι → D) (g : ι → Option D) : ∀ (xs : List ι), (∀ x ∈ xs, turn dead tg body (f x) e S = match g x with | some d => .ret d S | none => .next e S) →
    forD dead tg (.tmp ys) body (xs.map f) e S = match xs.findSome? g with | some d => .ret d S | none => .next e S
  | [], _ => forD_nil trivial
  | x :: xs, h => by
    rw [List.map_cons, forD_cons (src := .tmp ys) trivial, h x List.mem_cons_self, List.findSome?_cons]
    cases g x with
    | some d => rfl
    | none => exact for_find f g xs fun y hy => h y (List.mem_cons_of_mem _ hy)
variable {t : Ev Bool} {f : Ev D}
/-- a comprehension that changes nothing -/
theorem lc_map {ι : Type} {ys : List D} (v : ι → D) (p : ι → Bool) (g : ι → D) : ∀ (xs : List ι), (∀ x ∈ xs, ∃ e1, bindT tg (v x) e = some e1 ∧ t e1 S = .ok (p x) S ∧ (p x = true → f e1 S = .ok (g x) S)) →
    lcD tg (.tmp ys) t f e (xs.map v) S = .ok ((xs.filter p).map g) S
  | [], _ => by
    rw [List.map_nil, lcD_nil, if_pos (show (Src.tmp ys).ok S from trivial)]
    rfl
  | x :: xs, h => by
    obtain ⟨e1, q1, q2, q3⟩ := h x List.mem_cons_self
    rw [List.map_cons, lcD_cons, if_pos (show (Src.tmp ys).ok S from trivial), q1]
    simp only [q2, nox_ok, Res.bind_ok]
    have ih := lc_map (ys := ys) v p g xs fun y hy => h y (List.mem_cons_of_mem _ hy)
    cases hp : p x with
    | true => simp only [q3 hp, if_true, nox_ok, Res.bind_ok, ih, List.filter_cons_of_pos hp, List.map_cons]
    | false =>
      rw [if_neg Bool.false_ne_true, ih, List.filter_cons_of_neg (by simp [hp])]
theorem lc_all {ι : Type} {ys : List D} (v : ι → D) (g : ι → D) (xs : List ι) (h : ∀ x ∈ xs, ∃ e1, bindT tg (v x) e = some e1 ∧ f e1 S = .ok (g x) S) : lcD tg (.tmp ys) tYesD f e (xs.map v) S = .ok (xs.map g) S := by
  have := lc_map (t := tYesD) (f := f) (ys := ys) v (fun _ => true) g xs fun x hx => by
    obtain ⟨e1, q1, q2⟩ := h x hx
    exact ⟨e1, q1, rfl, fun _ => q2⟩
  rw [this, List.filter_eq_self.mpr fun _ _ => rfl]
/-- a comprehension that changes the store -/
theorem lc_inv {ys : List D} (I : Nat → Sto → List D → Prop) : ∀ (xs : List D) (k : Nat) (S : Sto) (acc : List D), I k S acc →
    (∀ (n : Nat) (S : Sto) (acc : List D) (x : D), xs[n]? = some x → I (k + n) S acc → ∃ e1 d S', bindT tg x e = some e1 ∧ f e1 S = .ok d S' ∧ I (k + n + 1) S' (acc ++ [d])) →
    ∃ ds S', lcD tg (.tmp ys) tYesD f e xs S = .ok ds S' ∧ I (k + xs.length) S' (acc ++ ds)
  | [], k, S, acc, h0, _ => ⟨[], S, by rw [lcD_nil, if_pos (show (Src.tmp ys).ok S from trivial)], by simpa using h0⟩
  | x :: xs, k, S, acc, h0, h => by
    obtain ⟨e1, d, S1, q1, q2, h1⟩ := h 0 S acc x rfl h0
    obtain ⟨ds, S2, q3, h2⟩ := lc_inv (ys := ys) I xs (k + 1) S1 (acc ++ [d]) h1 fun n S acc y hy hI => by
      have := h (n + 1) S acc y (by simpa using hy)
      rw [show k + (n + 1) = k + 1 + n by omega] at this
      exact this hI
    refine ⟨d :: ds, S2, ?_, by rw [List.length_cons, show k + (xs.length + 1) = k + 1 + xs.length by omega]; simpa using h2⟩
    rw [lcD_cons, if_pos (show (Src.tmp ys).ok S from trivial), q1]
    simp only [ap_yes, nox_ok, Res.bind_ok, if_true, q2, q3]
end
@[simp] theorem rngD_len {lo hi : Int} : (rngD lo hi).length = (hi - lo).toNat := by simp [rngD]
theorem rngD_get {lo hi : Int} {n : Nat} {x : D} (h : (rngD lo hi)[n]? = some x) : x = .int (lo + n) ∧ lo + n < hi := by
  unfold rngD at h
  have hn : n < (hi - lo).toNat := by
    have := (List.getElem?_eq_some_iff.mp h).1
    simpa using this
  rw [List.getElem?_map, List.getElem?_range hn] at h
  exact ⟨(Option.some.inj h).symm, by omega⟩
@[simp] theorem srcR1_ap {j : Int} {S : Sto} : srcR1 [.int j] S = if Rg62 j then .ok (.tmp (rngD 0 j)) S else .bad := id rfl
@[simp] theorem srcR2_ap {i j : Int} {S : Sto} : srcR2 [.int i, .int j] S = if Rg62 i ∧ Rg62 j then .ok (.tmp (rngD i j)) S else .bad := id rfl
theorem FitMul.left {i j : Int} (h1 : -18446744073709551616 < i) (h2 : i < 18446744073709551616) : FitMul i j := .inl ⟨by omega, by omega⟩
theorem FitMul.right {i j : Int} (h1 : -18446744073709551616 < j) (h2 : j < 18446744073709551616) : FitMul i j := .inr (.inl ⟨by omega, by omega⟩)
theorem bits_le {i : Int} {b : Nat} (h : i.natAbs < 2 ^ b) : Builtin.Int.intBits i ≤ b := by
  unfold Builtin.Int.intBits
  split
  · omega
  · rename_i hz
    have hn : i.natAbs ≠ 0 := fun e => hz (by have : i = 0 := Int.natAbs_eq_zero.mp e; subst this; rfl)
    have := (Nat.log2_lt hn).mpr h
    omega
theorem PowOk.of {i j : Int} {b : Nat} (h : i.natAbs < 2 ^ b) (h0 : 0 ≤ j) (hb : (b : Int) * j ≤ 134217728) : PowOk i j := by
  refine ⟨h0, ?_⟩
  have h1 := bits_le h
  have : (Builtin.Int.intBits i : Int) * j ≤ (b : Int) * j := Int.mul_le_mul_of_nonneg_right (by omega) h0
  omega
theorem FitMul.bits {i j : Int} {a b : Nat} (h : i.natAbs < 2 ^ a) (h' : j.natAbs < 2 ^ b) (hb : a + b ≤ 134217728) : FitMul i j := .inr (.inr (by
  have h1 := bits_le h
  have h2 := bits_le h'
  omega))
theorem pw18 : PowOk 10 18 := by decide
theorem pw57 : PowOk 10 57 := by decide
theorem pw59 : PowOk 10 59 := by decide
theorem powD_ok {i j : Int} {S : Sto} (h : PowOk i j) : powD (.int i) (.int j) S = .ok (.int (i ^ j.toNat)) S := if_pos h
theorem mulD_ok {i j : Int} {S : Sto} (h : FitMul i j) : mulD (.int i) (.int j) S = .ok (.int (i * j)) S := if_pos h
theorem p10_18 {S : Sto} : powD (.int 10) (.int 18) S = .ok (.int 1000000000000000000) S := powD_ok pw18
theorem p10_57 {S : Sto} : powD (.int 10) (.int 57) S = .ok (.int (10 ^ 57)) S := powD_ok pw57
theorem p10_59 {S : Sto} : powD (.int 10) (.int 59) S = .ok (.int (10 ^ 59)) S := powD_ok pw59
theorem mul_lt {i j : Int} {a b : Int} (h1 : 0 ≤ i) (h2 : i < a) (h3 : 0 ≤ j) (h4 : j < b) : i * j < a * b := by
  have h5 : i * j ≤ i * b := Int.mul_le_mul_of_nonneg_left (by omega) h1
  have h6 : i * b < a * b := Int.mul_lt_mul_of_pos_right h2 (by omega)
  omega
end Pu
set_option Elab.async false
set_option linter.all false
set_option maxRecDepth 100000
namespace Pu
open PySem PySem.Spec PyProof.Rows L2
/-- data of one kind: f tells them, n bounds their depth -/
structure Rp {α : Type} (f : α → D) (n : Nat) : Prop where
  eqv : ∀ x y, PyData.eqv (f x).py (f y).py = true ↔ x = y
  lay : ∀ x, (f x).py.canLay0 = true
  dep : ∀ x, (f x).py.depth ≤ n
  flat : ∀ x S, pyOf S (f x) = (f x).py
  gnd : ∀ x, (f x).gnd = true
theorem Rp.int : Rp D.int 0 := ⟨fun x y => by simp [D.py, PyData.eqv], fun _ => rfl, fun _ => Nat.le_refl _, fun _ _ => rfl, fun _ => rfl⟩
theorem Rp.bl : Rp D.bl 0 := ⟨fun x y => by cases x <;> cases y <;> decide, fun _ => rfl, fun _ => Nat.le_refl _, fun _ _ => rfl, fun _ => rfl⟩
/-- a row of two -/
def prD {α β : Type} (f : α → D) (g : β → D) (p : α × β) : D := .tup [f p.1, g p.2]
def tpD {α : Type} (f : α → D) (xs : List α) : D := .tup (xs.map f)
def lsD {α : Type} (f : α → D) (xs : List α) : D := .lst (xs.map f)
theorem Rp.pr {α β : Type} {f : α → D} {g : β → D} {n m : Nat} (hf : Rp f n) (hg : Rp g m) : Rp (prD f g) (max n m + 1) := ⟨fun x y => by
    obtain ⟨a, b⟩ := x
    obtain ⟨c, d⟩ := y
    simp [prD, D.py, pys, PyData.eqv, PyData.eqvAll, hf.eqv, hg.eqv], fun x => by
    simp [prD, D.py, pys, PyData.canLay0, PyData.canLayAll0, hf.lay, hg.lay], fun x => by
    have h1 := hf.dep x.1
    have h2 := hg.dep x.2
    simp only [prD, D.py, pys, PyData.depth, PyData.depthAll]
    omega, fun _ _ => rfl, fun x => by
    simp [prD, hf.gnd, hg.gnd]⟩
theorem eqvs {α : Type} {f : α → D} {n : Nat} (hf : Rp f n) : ∀ xs ys : List α, PyData.eqvAll (pys (xs.map f)) (pys (ys.map f)) = true ↔ xs = ys
  | [], [] => by simp [pys, PyData.eqvAll]
  | [], _ :: _ => by simp [pys, PyData.eqvAll]
  | _ :: _, [] => by simp [pys, PyData.eqvAll]
  | x :: xs, y :: ys => by
    simp [pys, PyData.eqvAll, hf.eqv, eqvs hf xs ys]
theorem lays {α : Type} {f : α → D} {n : Nat} (hf : Rp f n) : ∀ xs : List α, PyData.canLayAll0 (pys (xs.map f)) = true
  | [] => rfl
  | x :: xs => by simp [pys, PyData.canLayAll0, hf.lay, lays hf xs]
theorem deps {α : Type} {f : α → D} {n : Nat} (hf : Rp f n) : ∀ xs : List α, PyData.depthAll (pys (xs.map f)) ≤ n
  | [] => Nat.zero_le _
  | x :: xs => by
    have h1 := hf.dep x
    have h2 := deps hf xs
    simp only [List.map_cons, pys, PyData.depthAll]
    omega
theorem Rp.tp {α : Type} {f : α → D} {n : Nat} (hf : Rp f n) : Rp (tpD f) (n + 1) := ⟨fun x y => by
    simp only [tpD, D.py, PyData.eqv]
    exact eqvs hf x y, fun x => by
    simp only [tpD, D.py, PyData.canLay0]
    exact lays hf x, fun x => by
    have := deps hf x
    simp only [tpD, D.py, PyData.depth]
    omega, fun _ _ => rfl, fun x => by
    simp [tpD, gnds_map hf.gnd]⟩
theorem Rp.ls {α : Type} {f : α → D} {n : Nat} (hf : Rp f n) : Rp (lsD f) (n + 1) := ⟨fun x y => by
    simp only [lsD, D.py, PyData.eqv]
    exact eqvs hf x y, fun x => by
    simp only [lsD, D.py, PyData.canLay0]
    exact lays hf x, fun x => by
    have := deps hf x
    simp only [lsD, D.py, PyData.depth]
    omega, fun _ _ => rfl, fun x => by
    simp [lsD, gnds_map hf.gnd]⟩
theorem Rp.shp {α : Type} {f : α → D} {n : Nat} (hf : Rp f n) (h : n ≤ 64) (x : α) (S : Sto) : Pu.shp S (f x) = true := by
  have := hf.dep x
  unfold Pu.shp SeqAt.shaped
  rw [hf.flat, hf.lay]
  simp
  omega
theorem Rp.eqB {α : Type} [DecidableEq α] {f : α → D} {n : Nat} (hf : Rp f n) (x y : α) (S : Sto) : Pu.eqB S (f x) (f y) = decide (x = y) := by
  unfold Pu.eqB
  rw [hf.flat, hf.flat]
  rw [Bool.eq_iff_iff, hf.eqv]
  simp
theorem Rp.eq {α : Type} [DecidableEq α] {f : α → D} {n : Nat} (hf : Rp f n) (h : n ≤ 64) (x y : α) (S : Sto) : eqD false (f x) (f y) S = .ok (.bl (decide (x = y))) S := by
  simp [eqD, hf.shp h, hf.eqB]
theorem Rp.ne {α : Type} [DecidableEq α] {f : α → D} {n : Nat} (hf : Rp f n) (h : n ≤ 64) (x y : α) (S : Sto) : eqD true (f x) (f y) S = .ok (.bl (!decide (x = y))) S := by
  simp [eqD, hf.shp h, hf.eqB]
@[simp] theorem eqD_int {i j : Int} {S : Sto} : eqD false (.int i) (.int j) S = .ok (.bl (decide (i = j))) S := Rp.int.eq (by decide) i j S
@[simp] theorem neD_int {i j : Int} {S : Sto} : eqD true (.int i) (.int j) S = .ok (.bl (!decide (i = j))) S := Rp.int.ne (by decide) i j S
/-- a list of the store beside data -/
theorem pyOf_ref {S : Sto} {k : Nat} {xs : List D} (h : S[k]? = some (.lst xs)) : pyOf S (.ref k) = (D.lst xs).py := by
  simp [pyOf, h, D.py]
theorem neR_nil {α : Type} {f : α → D} {n : Nat} (hf : Rp f n) (hn : n < 64) {S : Sto} {k : Nat} {xs : List α} (h : S[k]? = some (.lst (xs.map f))) : eqD true (.ref k) (.lst []) S = .ok (.bl (!xs.isEmpty)) S := by
  have h1 : shp S (.ref k) = true := by
    have := hf.ls.shp (by omega) xs S
    unfold shp at this ⊢
    rw [pyOf_ref h]
    rw [hf.ls.flat] at this
    exact this
  have h2 : shp S (.lst []) = true := hf.ls.shp (by omega) [] S
  have h3 : eqB S (.ref k) (.lst []) = xs.isEmpty := by
    unfold eqB
    rw [pyOf_ref h, show pyOf S (.lst []) = (lsD f []).py from rfl]
    rw [Bool.eq_iff_iff, show D.lst (xs.map f) = lsD f xs from rfl, hf.ls.eqv]
    simp
  simp [eqD, h1, h2, h3]
theorem frz_ref {S S' : Sto} {k : Nat} {xs : List D} (hc : Clo S S') (hk : S.length ≤ k) (h : S'[k]? = some (.lst xs)) (hx : gnds xs = true) : fin .frz S (.ref k) S' = .ok (.lst xs) (S'.take S.length) := by
  have h1 : allSome (xs.map (frzV S.length S' 5)) = some xs := by
    have : ∀ ys : List D, gnds ys = true → allSome (ys.map (frzV S.length S' 5)) = some ys := by
      intro ys
      induction ys with
      | nil => intro _; rfl
      | cons y ys ih =>
        intro hy
        have h' : y.gnd = true ∧ gnds ys = true := by simpa using hy
        have e : frzV S.length S' 5 y = some y := by
          unfold frzV
          rw [if_pos (gnd_below _ y h'.1)]
        simp only [List.map_cons, e, allSome, ih h'.2, Option.map_some]
    exact this xs hx
  simp only [fin]
  rw [if_pos hc]
  unfold frzV
  rw [if_neg (by simp [D.bel]; omega)]
  simp only [h, h1, Option.map_some]
  rfl
theorem finR_app {S T : Sto} {k : Nat} {xs : List D} (hk : S.length ≤ k) (h : (S ++ T)[k]? = some (.lst xs)) (hx : gnds xs = true) : fin .frz S (.ref k) (S ++ T) = .ok (.lst xs) S := by
  rw [frz_ref .app hk h hx, List.take_left]
def Dg (S : Sto) (k : Nat) (x : Int) : Sto := S.set k (.lst [.int x])
section
variable {S T : Sto} {k j : Nat} {x y : Int}
@[simp] theorem Dg_len : (Dg S k x).length = S.length := by simp [Dg]
theorem Dg_at (h : k < S.length) : (Dg S k x)[k]? = some (.lst [.int x]) := by simp [Dg, h]
theorem Dg_ne (h : j ≠ k) : (Dg S k x)[j]? = S[j]? := by simp [Dg, Ne.symm h]
theorem Dg_Dg : Dg (Dg S k x) k y = Dg S k y := by simp [Dg]
theorem Dg_set : (Dg S k x).set k (.lst [.int y]) = Dg S k y := by simp [Dg]
theorem Dg_app (h : k < S.length) : Dg S k x ++ T = Dg (S ++ T) k x := by simp [Dg, List.set_append, h]
theorem Dg_comm {o : DO} (h : j ≠ k) : (Dg S k x).set j o = Dg (S.set j o) k x := by
  unfold Dg
  rw [List.set_comm _ _ (Ne.symm h)]
theorem Dg_of (h : S[k]? = some (.lst [.int x])) : Dg S k x = S := by
  unfold Dg
  apply List.ext_getElem?
  intro i
  by_cases hi : k = i
  · subst hi
    rw [List.getElem?_set_self (List.getElem?_eq_some_iff.mp h).1, h]
  · rw [List.getElem?_set_ne hi]
/-- what a def hands back that drew and made one list -/
theorem Dg_clo (h : k < S.length) : Clo (Dg S k x) (Dg S k y ++ T) := by
  have := Clo.set (S := Dg S k x) (T := T) (k := k) (o := .lst [.int y]) (by simp)
  rw [Dg_set] at this
  exact this
theorem fin_dg {d : D} (h : k < S.length) (hd : d.gnd = true) : fin .frz (Dg S k x) d (Dg S k y ++ T) = .ok d (Dg S k y) := by
  rw [fin_frz (Dg_clo h) hd]
  have : (Dg S k x).length = (Dg S k y).length := by simp
  rw [this, List.take_left]
theorem fin_dg0 {d : D} (h : k < S.length) (hd : d.gnd = true) : fin .frz (Dg S k x) d (Dg S k y) = .ok d (Dg S k y) := by
  have := fin_dg (x := x) (y := y) (T := []) h hd
  simpa using this
theorem fin_dgR {xs : List D} {n : Nat} (h : k < S.length) (hn : n = S.length) (hx : gnds xs = true) : fin .frz (Dg S k x) (.ref n) (Dg (S ++ [.lst xs]) k y) = .ok (.lst xs) (Dg S k y) := by
  subst hn
  rw [← Dg_app h, frz_ref (xs := xs) (Dg_clo h) (by simp) (by simp) hx]
  have : (Dg S k x).length = (Dg S k y).length := by simp
  rw [this, List.take_left]
end
theorem sz {n : Nat} (h : n < 1048576) : n < sizeLine := Nat.lt_of_lt_of_le h (by unfold sizeLine; decide +kernel)
theorem set_last {S : Sto} {o p : DO} : (S ++ [o]).set S.length p = S ++ [p] := by simp
theorem last_at {S : Sto} {o : DO} : (S ++ [o])[S.length]? = some o := by simp

theorem Dg_last {S : Sto} {o : DO} {k : Nat} {z : Int} (h : k < S.length) : (Dg (S ++ [o]) k z)[S.length]? = some o := by
  rw [Dg_ne (by omega), last_at]
theorem Dg_setl {S : Sto} {o p : DO} {k : Nat} {z : Int} (h : k < S.length) : (Dg (S ++ [o]) k z).set S.length p = Dg (S ++ [p]) k z := by
  rw [Dg_comm (by omega), set_last]
theorem rg {n : Nat} (h : n < 1048576) : Rg62 (n : Int) := by
  unfold Rg62
  omega
theorem forR1 {dead : List Nat} {tg : Tg} {f : Ev D} {a : Stm} {e : En} {S : Sto} {n : Nat} (hf : f e S = .ok (.int n) S) (h : n < 1048576) : sFor dead tg (iR1 f) a e S = forD dead tg (.tmp (rngD 0 n)) a (rngD 0 n) e S := by
  rw [ap_For, ap_iR1, hf, Res.bind_ok, srcR1_ap, if_pos (rg h), Res.stm_ok]
  rfl
theorem forT {dead : List Nat} {tg : Tg} {f : Ev D} {a : Stm} {e : En} {S : Sto} {xs : List D} (hf : f e S = .ok (.tup xs) S) : sFor dead tg (iT f) a e S = forD dead tg (.tmp xs) a xs e S := by
  rw [ap_For, ap_iT, hf, Res.bind_ok, srcT_tup, Res.stm_ok]
  rfl
end Pu
set_option Elab.async false
set_option linter.all false
set_option maxRecDepth 100000
namespace Pu
open PySem PySem.Spec PyProof.Rows L2
theorem list_set0 {α : Type} {x y : α} {xs : List α} : (x :: xs).set 0 y = y :: xs := rfl
theorem list_setS {α : Type} {x y : α} {xs : List α} {n : Nat} : (x :: xs).set (n + 1) y = x :: xs.set n y := rfl
theorem rep_0 {α : Type} {x : α} : List.replicate 0 x = [] := rfl
theorem rep_S {α : Type} {x : α} {n : Nat} : List.replicate (n + 1) x = x :: List.replicate n x := rfl
theorem obs {α β : Type} {a : α} {f : α → Option β} : (some a).bind f = f a := rfl
theorem iftr {α : Type} {a b : α} : (if (true = true) then a else b) = a := rfl
theorem iffa {α : Type} {a b : α} : (if (false = true) then a else b) = b := rfl
theorem ifT {α : Type} {a b : α} : (if True then a else b) = a := if_pos trivial
theorem ifF {α : Type} {a b : α} : (if False then a else b) = b := if_neg not_false
theorem and_ {p q : Prop} (a : p) (b : q) : p ∧ q := ⟨a, b⟩
def goA := And.intro @ap_C (And.intro @ap_Var0 (And.intro @ap_VarS (And.intro @ap_1 (And.intro @ap_2 (And.intro @ap_TB (And.intro @ap_Ch (And.intro @ap_tAnd (And.intro @ap_tOr (And.intro @ap_tNot (And.intro @ap_eAnd (And.intro @ap_eOr (And.intro @ap_eNot (And.intro @ap_eIf (And.intro @ap_Tr (And.intro @ap_Args0 (And.intro @ap_Args (And.intro @ap_Tup (And.intro @ap_Call (And.intro @ap_Fn (And.intro @ap_nLst (And.intro @ap_nDct0 (And.intro @ap_Ano (And.intro @ap_New (And.intro @ap_M (And.intro @ap_Sl (And.intro @ap_pN (And.intro @ap_pE @ap_yes)))))))))))))))))))))))))))
def goB := And.intro @ap_Set (And.intro @ap_Ret (And.intro @ap_Expr (And.intro @ap_Next (And.intro @ap_Brk (And.intro @ap_Seq (And.intro @ap_If (And.intro @ap_St (And.intro @ap_Asg (And.intro @ap_Aug (And.intro @ap_Fgt (And.intro @fgt_next (And.intro @fgt_ret (And.intro @fgt_brk (And.intro @wipe_nil (And.intro @wipe_cons (And.intro @bindT_nm (And.intro @bindT_tp (And.intro @bindT_tpi (And.intro @bindTs_nil @bindTs_cons)))))))))))))))))))
def goC := And.intro @Res.bind_ok (And.intro @Res.stm_ok (And.intro @SRes.seq_next (And.intro @SRes.seq_ret (And.intro @SRes.seq_brk (And.intro @opt_some (And.intro @toB_bl (And.intro @aft_next (And.intro @aft_cnt (And.intro @aft_brk (And.intro @aft_ret (And.intro @retD_ret (And.intro @retD_next (And.intro @anoD_lst (And.intro @anoD_dct (And.intro @truD_bl (And.intro @truD_int (And.intro @list_set0 (And.intro @list_setS (And.intro @rep_0 (And.intro @rep_S (And.intro @obs (And.intro @iftr (And.intro @iffa (And.intro @ifT @ifF))))))))))))))))))))))))
def goS := And.intro goA (And.intro goB goC)
section
variable {a b : Int} {S : Sto}
theorem subD_i : subD (.int a) (.int b) S = .ok (.int (a - b)) S := rfl
theorem ltD_i : ltD (.int a) (.int b) S = .ok (.bl (decide (a < b))) S := rfl
theorem leD_i : leD (.int a) (.int b) S = .ok (.bl (decide (a ≤ b))) S := rfl
theorem gtD_i : gtD (.int a) (.int b) S = .ok (.bl (decide (b < a))) S := rfl
theorem geD_i : geD (.int a) (.int b) S = .ok (.bl (decide (b ≤ a))) S := rfl
end
/-- what the numbers do -/
def goI := And.intro @addD_int (And.intro @subD_i (And.intro @ltD_i (And.intro @leD_i (And.intro @gtD_i (And.intro @geD_i (And.intro @negD_int (And.intro @eqD_int (And.intro @neD_int (And.intro @int1_int (And.intro @int1_bl (And.intro @lenD_tup (And.intro @lenD_lst (And.intro @lenD_fls (And.intro @ixD_tup (And.intro @ixD_lst @ixD_fls)))))))))))))))
/-- the start -/
def go0 := And.intro @startE_a1 (And.intro @startE_a2 (And.intro @startE_a3 @startE_a4))

theorem boolsD_map {f : List Bool → Bool} {bs : List Bool} {S : Sto} : boolsD f [.lst (bs.map D.bl)] S = .ok (.bl (f bs)) S := by
  simp only [boolsD, lsOf_lst, Option.bind_some, bools_map]
section
variable {S : Sto} {i : Int} {b : Bool} {x : Str} {xs : List D}
theorem is_int_int : isD "int" (.int i) S = .ok (.bl true) S := rfl
theorem is_bool_int : isD "bool" (.int i) S = .ok (.bl false) S := rfl
theorem is_str_int : isD "str" (.int i) S = .ok (.bl false) S := rfl
theorem is_tup_int : isD "tuple" (.int i) S = .ok (.bl false) S := rfl
theorem is_lst_int : isD "list" (.int i) S = .ok (.bl false) S := rfl
theorem is_dct_int : isD "dict" (.int i) S = .ok (.bl false) S := rfl
theorem is_int_bl : isD "int" (.bl b) S = .ok (.bl true) S := rfl
theorem is_bool_bl : isD "bool" (.bl b) S = .ok (.bl true) S := rfl
theorem is_str_bl : isD "str" (.bl b) S = .ok (.bl false) S := rfl
theorem is_tup_bl : isD "tuple" (.bl b) S = .ok (.bl false) S := rfl
theorem is_lst_bl : isD "list" (.bl b) S = .ok (.bl false) S := rfl
theorem is_int_str : isD "int" (.str x) S = .ok (.bl false) S := rfl
theorem is_bool_str : isD "bool" (.str x) S = .ok (.bl false) S := rfl
theorem is_str_str : isD "str" (.str x) S = .ok (.bl true) S := rfl
theorem is_tup_str : isD "tuple" (.str x) S = .ok (.bl false) S := rfl
theorem is_lst_str : isD "list" (.str x) S = .ok (.bl false) S := rfl
theorem is_int_tup : isD "int" (.tup xs) S = .ok (.bl false) S := rfl
theorem is_bool_tup : isD "bool" (.tup xs) S = .ok (.bl false) S := rfl
theorem is_str_tup : isD "str" (.tup xs) S = .ok (.bl false) S := rfl
theorem is_tup_tup : isD "tuple" (.tup xs) S = .ok (.bl true) S := rfl
theorem is_lst_tup : isD "list" (.tup xs) S = .ok (.bl false) S := rfl
theorem is_int_lst : isD "int" (.lst xs) S = .ok (.bl false) S := rfl
theorem is_bool_lst : isD "bool" (.lst xs) S = .ok (.bl false) S := rfl
theorem is_str_lst : isD "str" (.lst xs) S = .ok (.bl false) S := rfl
theorem is_tup_lst : isD "tuple" (.lst xs) S = .ok (.bl false) S := rfl
theorem is_lst_lst : isD "list" (.lst xs) S = .ok (.bl true) S := rfl
theorem is_int_non : isD "int" .non S = .ok (.bl false) S := rfl
theorem is_bool_non : isD "bool" .non S = .ok (.bl false) S := rfl
theorem is_str_non : isD "str" .non S = .ok (.bl false) S := rfl
theorem is_tup_non : isD "tuple" .non S = .ok (.bl false) S := rfl
theorem is_lst_non : isD "list" .non S = .ok (.bl false) S := rfl
end
/-- isinstance -/
def goT := And.intro @is_int_int (And.intro @is_bool_int (And.intro @is_str_int (And.intro @is_tup_int (And.intro @is_lst_int (And.intro @is_dct_int (And.intro @is_int_bl (And.intro @is_bool_bl (And.intro @is_str_bl (And.intro @is_tup_bl (And.intro @is_lst_bl (And.intro @is_int_str (And.intro @is_bool_str (And.intro @is_str_str (And.intro @is_tup_str (And.intro @is_lst_str (And.intro @is_int_tup (And.intro @is_bool_tup (And.intro @is_str_tup (And.intro @is_tup_tup (And.intro @is_lst_tup (And.intro @is_int_lst (And.intro @is_bool_lst (And.intro @is_str_lst (And.intro @is_tup_lst (And.intro @is_lst_lst (And.intro @is_int_non (And.intro @is_bool_non (And.intro @is_str_non (And.intro @is_tup_non @is_lst_non)))))))))))))))))))))))))))))
/-- a comprehension over a tuple, every item taken -/
theorem nLcT {vs : List Nat} {tg : Tg} {f g : Ev D} {e : En} {S : Sto} {xs ys : List D} (hf : f e S = .ok (.tup xs) S) (hl : xs.length < 1048576) (h : lcD tg (.tmp xs) tYesD g (wipeE e vs) xs S = .ok ys S) : nLc vs tg (iT f) tYesD g e S = .ok (.lst ys) S := by
  rw [ap_Lc, ap_iT, hf, Res.bind_ok, srcT_tup, Res.bind_ok]
  simp only [Src.items_tmp]
  rw [if_pos (Nat.le_of_lt (sz hl)), h, Res.bind_ok]
theorem nLcL {vs : List Nat} {tg : Tg} {f g : Ev D} {e : En} {S : Sto} {xs ys : List D} (hf : f e S = .ok (.lst xs) S) (hl : xs.length < 1048576) (h : lcD tg (.tmp xs) tYesD g (wipeE e vs) xs S = .ok ys S) : nLc vs tg (iL f) tYesD g e S = .ok (.lst ys) S := by
  rw [ap_Lc, ap_iL, hf, Res.bind_ok, srcL_lst, Res.bind_ok]
  simp only [Src.items_tmp]
  rw [if_pos (Nat.le_of_lt (sz hl)), h, Res.bind_ok]
end Pu
set_option Elab.async false
set_option linter.all false
set_option maxRecDepth 100000
namespace Pu
open PySem PySem.Spec PyProof.Rows L2
section
variable {P : Program} {w : World} {A : Around} {E : Value → Shared → Prop} {s : Shared}
abbrev fob (w : World) : Obj := { cls := .type "set", dict := none, data := .set #[] 0 (.fresh 0 0 (!w.params.followText "set-order")) }
abbrev lit (l : Addr) : Obj := { cls := .type "list_iterator", data := .fields #[.ref l, .int 0 0] }
set_option maxHeartbeats 3200000 in
theorem set_of_ints {l : Addr} {xs : Array Value} (ns : List Int) {R : Value → Shared → Prop} (h0 : A.handled = none) (hx : s.heap.IsList l xs) (hi : IntsAre xs.toList ns) (hn : ns.length + 1 < scanBound)
    (q : ∀ (g : Heap) (t c : Nat), SetR w g s.heap.objs.size (fun j => decide (j ∈ ns)) c → c ≤ ns.length → (∀ b o, s.heap.get? b = some o → g.get? b = some o) → R (.ref s.heap.objs.size) { s with heap := g, toks := t }) :
    wpAny (model P w) A (call (.type "set") [.ref l]) R E s := by
  have hz : xs.size = ns.length := by have := hi.length; rwa [Array.length_toList] at this
  obtain ⟨c, tl, hm⟩ := F.called_set.mro
  have r1 := F.called_set.made
  have r2 := F.called_set.sub
  refine wpAny_call (codeAny_of_tree (by
    show wpAny _ _ (callAny (.type "set") _) _ _ _
    refine wpAny_pure ⟨Code.quiet_builtin _ (by decide +kernel), codeAny_builtin F.entry_type_call ?_⟩
    rw [Around.under_plain (weight_type_call_type "set" [.ref l] []) rfl]
    have r3 := F.called_set.notType
    have r4 := F.called_set.canCreate
    have r5 := F.typeCall_set_1 (.ref l)
    repeat (any_goals (first | assumption | wp_step))
    refine codeAny_mono (code_set_led1 (.ref l) (E := E) (Q₁ := fun v s1 => v = .ref s.heap.objs.size ∧ s1 = { s with heap := s.heap.push (fob w) }) ⟨rfl, rfl⟩) fun r s1 hr => ?_
    cases r with
    | error e => exact hr
    | ok fl =>
      cases fl with
      | ret v =>
        obtain ⟨rfl, rfl⟩ := hr
        have p1 : (s.heap.push (fob w)).get? s.heap.objs.size = some (fob w) := Heap.get?_push_size _ rfl
        have p2 : Shared.TypeIs { s with heap := s.heap.push (fob w) } (.ref s.heap.objs.size) "set" := ⟨_, p1, rfl⟩
        have r6 := F.called_set.init.lookup
        have r7 := F.called_set.init.bind (.ref s.heap.objs.size)
        repeat (any_goals (first | assumption | wp_step))
        refine codeAny_mono (codeAny_call_builtin (R := wants (fun r s2 => r = .none ∧ ∃ g t c, s2 = { s with heap := g, toks := t } ∧ SetR w g s.heap.objs.size (fun j => decide (j ∈ ns)) c ∧ c ≤ ns.length ∧ (∀ b o, s.heap.get? b = some o → g.get? b = some o)) E) F.called_set.init.plain F.entry_set_init (check_set_init_1 p2 ?_)) fun r2 s2 hr2 => ?_
        · obtain ⟨⟨oc, od, oa, os⟩, ho, hc, n, hd⟩ := hx
          simp only at hc hd
          subst hc hd
          have p3 : (s.heap.push (fob w)).get? l = some { cls := .type "list", dict := od, data := .seq xs n, slots := os } := Heap.get?_push_of_some _ ho
          have r8 := F.sub_list_set
          have r9 := F.sub_list_frozenset
          have ne : (Value.type "list" == Value.type "dict") = false := by decide
          have p4 : (s.heap.push (fob w)).IsList l xs := ⟨_, p3, rfl, n, rfl⟩
          unfold Builtin.«set.__init__» noKeywords Builtin.Frozenset.updateFrom
          generalize hp : pyIter = pp
          wp_walk
          subst hp
          refine wpAny_pyIter_list p4 (wpAny_bind (wpAny_runValue ?_))
          have ls : l < s.heap.objs.size := Heap.lt_size ho
          have h3 : A.in1.in1.in1.handled = none := by simp [h0]
          have zz : (s.heap.push (fob w)).objs.size = s.heap.objs.size + 1 := Heap.size_push ..
          have n1 : l ≠ (s.heap.push (fob w)).objs.size := by rw [zz]; exact Nat.ne_of_lt (Nat.lt_succ_of_lt ls)
          have n2 : s.heap.objs.size ∉ [(s.heap.push (fob w)).objs.size, l] := by
            rw [zz, List.mem_cons, List.mem_singleton, not_or]
            exact ⟨Nat.ne_of_lt (Nat.lt_succ_self _), Nat.ne_of_gt ls⟩
          have vl : ∀ (i : Nat) (v : Value), xs[i]? = some v → ∃ k t, ns[i]? = some k ∧ v = .int k t := fun i v hv => by
            have hi' : i < ns.length := by rw [← hz]; exact (Array.getElem?_eq_some_iff.mp hv).1
            obtain ⟨t, e⟩ := IntsAre.int_at hi i v (by rw [Array.getElem?_toList]; exact hv)
            refine ⟨ns[i], t, List.getElem?_eq_getElem hi', ?_⟩
            rw [e, List.getD_eq_getElem?_getD, List.getElem?_eq_getElem hi'] <;> rfl
          refine set_update_ints ((Walks.list h3 _ l n1 xs).toS) s.heap.objs.size n2 ns hz hn vl (xs.size - 0) 0 _ (by omega) (Nat.zero_le _) ⟨⟨_, Heap.get?_push_size _ rfl, rfl, rfl⟩, p4.push _⟩ ?sa ?sb
          case sa => exact ⟨0, Nat.le_refl 0, setR_new_at (show ((s.heap.push (fob w)).push (lit l)).get? s.heap.objs.size = some (fob w) from Heap.get?_push_of_some _ p1)⟩
          case sb =>
            intro s' c' hv hc' hS
            obtain ⟨g, g2, d', t', o'⟩ := s'
            have e1 : g2 = s.gens := hv.gens
            have e2 : d' = s.drawn := hv.drawn
            have e3 : o' = s.os := hv.os
            subst e1 e2 e3
            show wpAny _ _ _ _ _ _
            refine wpAny_pure ?_
            show wpAny _ _ (ret Value.none) _ _ _
            rw [hz] at hc'
            refine wpAny_pure ⟨rfl, g, t', c', rfl, hS, hc', fun b o e => hv.heap b o ?_ (Heap.get?_push_of_some _ (Heap.get?_push_of_some _ e))⟩
            have hb := Heap.lt_size e
            rw [zz, List.mem_cons, List.mem_singleton, not_or]
            exact ⟨Nat.ne_of_lt hb, Nat.ne_of_lt (Nat.lt_succ_of_lt hb)⟩
        · cases r2 with
          | error e => exact hr2
          | ok f2 =>
            cases f2 with
            | ret v =>
              obtain ⟨rfl, g, t, c, rfl, hS, hc, hk⟩ := hr2
              repeat (any_goals (first | assumption | wp_step))
              exact q g t c hS hc hk
            | _ => exact hr2.elim
      | _ => exact hr.elim))
end
end Pu
set_option Elab.async false
set_option linter.all false
set_option maxRecDepth 100000
namespace Pu
open PySem PySem.Spec PyProof.Rows L2
def insU (k : Int) : List Int → List Int
  | [] => [k]
  | x :: xs => if k < x then k :: x :: xs else if k = x then x :: xs else x :: insU k xs
/-- the members, rising, each once -/
def sset (ns : List Int) : List Int := ns.foldr insU []
theorem mem_insU {k j : Int} : ∀ {xs : List Int}, j ∈ insU k xs ↔ j = k ∨ j ∈ xs
  | [] => by simp [insU]
  | x :: xs => by
    unfold insU
    split
    · simp
    · split
      · rename_i h; subst h; simp
      · rw [List.mem_cons, mem_insU, List.mem_cons]
        grind
theorem pw_insU {k : Int} : ∀ {xs : List Int}, xs.Pairwise (· < ·) → (insU k xs).Pairwise (· < ·)
  | [], _ => by simp [insU]
  | x :: xs, h => by
    obtain ⟨h1, h2⟩ := List.pairwise_cons.mp h
    unfold insU
    split
    · rename_i hk
      refine List.pairwise_cons.mpr ⟨fun y hy => ?_, h⟩
      rcases List.mem_cons.mp hy with e | hy
      · omega
      · have := h1 y hy; omega
    · split
      · exact h
      · refine List.pairwise_cons.mpr ⟨fun y hy => ?_, pw_insU h2⟩
        rcases mem_insU.mp hy with e | hy
        · omega
        · exact h1 y hy
theorem mem_sset {j : Int} : ∀ {ns : List Int}, j ∈ sset ns ↔ j ∈ ns
  | [] => by simp [sset]
  | n :: ns => by
    show j ∈ insU n (sset ns) ↔ _
    rw [mem_insU, mem_sset, List.mem_cons]
theorem pw_sset : ∀ ns : List Int, (sset ns).Pairwise (· < ·)
  | [] => by simp [sset]
  | n :: ns => pw_insU (pw_sset ns)
theorem uniq_pw : ∀ {xs ys : List Int}, xs.Pairwise (· < ·) → ys.Pairwise (· < ·) → (∀ k, k ∈ xs ↔ k ∈ ys) → xs = ys
  | [], [], _, _, _ => rfl
  | [], y :: ys, _, _, h => absurd ((h y).mpr List.mem_cons_self) (by simp)
  | x :: xs, [], _, _, h => absurd ((h x).mp List.mem_cons_self) (by simp)
  | x :: xs, y :: ys, hx, hy, h => by
    obtain ⟨x1, x2⟩ := List.pairwise_cons.mp hx
    obtain ⟨y1, y2⟩ := List.pairwise_cons.mp hy
    have e : x = y := by
      rcases List.mem_cons.mp ((h x).mp List.mem_cons_self) with e | m
      · exact e
      · rcases List.mem_cons.mp ((h y).mpr List.mem_cons_self) with e | m'
        · exact e.symm
        · have := y1 x m; have := x1 y m'; omega
    subst e
    rw [uniq_pw x2 y2 fun k => ⟨fun m => by
      rcases List.mem_cons.mp ((h k).mp (List.mem_cons_of_mem _ m)) with e | m'
      · have := x1 k m; omega
      · exact m', fun m => by
      rcases List.mem_cons.mp ((h k).mpr (List.mem_cons_of_mem _ m)) with e | m'
      · have := y1 k m; omega
      · exact m'⟩]
/-- rising with repeats -/
def insI (k : Int) : List Int → List Int
  | [] => [k]
  | x :: xs => if k ≤ x then k :: x :: xs else x :: insI k xs
def sortI (ns : List Int) : List Int := ns.foldr insI []
theorem perm_insI {k : Int} : ∀ {xs : List Int}, (insI k xs).Perm (k :: xs)
  | [] => .refl _
  | x :: xs => by
    unfold insI
    split
    · exact .refl _
    · exact ((perm_insI (k := k) (xs := xs)).cons x).trans (.swap k x xs)
theorem pw_insI {k : Int} : ∀ {xs : List Int}, xs.Pairwise (· ≤ ·) → (insI k xs).Pairwise (· ≤ ·)
  | [], _ => by simp [insI]
  | x :: xs, h => by
    obtain ⟨h1, h2⟩ := List.pairwise_cons.mp h
    unfold insI
    split
    · rename_i hk
      refine List.pairwise_cons.mpr ⟨fun y hy => ?_, h⟩
      rcases List.mem_cons.mp hy with e | hy
      · omega
      · have := h1 y hy; omega
    · refine List.pairwise_cons.mpr ⟨fun y hy => ?_, pw_insI h2⟩
      rcases List.mem_cons.mp (perm_insI.mem_iff.mp hy) with e | hy
      · omega
      · exact h1 y hy
theorem perm_sortI : ∀ ns : List Int, (sortI ns).Perm ns
  | [] => .refl _
  | n :: ns => perm_insI.trans ((perm_sortI ns).cons n)
theorem pw_sortI : ∀ ns : List Int, (sortI ns).Pairwise (· ≤ ·)
  | [] => List.Pairwise.nil
  | n :: ns => pw_insI (pw_sortI ns)
theorem uniq_le {xs ys : List Int} (hx : xs.Pairwise (· ≤ ·)) (hy : ys.Pairwise (· ≤ ·)) (h : xs.Perm ys) : xs = ys :=
  h.eq_of_pairwise (le := (· ≤ ·)) (fun a b _ _ h1 h2 => by omega) hx hy
/-- set(xs) -/
def rSetL (K : PySem.W.Frag) (w : World) : List V → Hp → VK → Prop := fun vs H Q => ∃ (a : Addr) (ns : List Int), vs = [V.ref a] ∧ SqL K H a (ns.map V.int) ∧ ns.length < 4095 ∧
  ∀ (p : Addr) (c : Nat), c ≤ ns.length → H p = none → Q (.ref p) (upd H p (SetO w p (fun j => decide (j ∈ ns)) c))
theorem cr_setL {X : Cx} (hc : X.calm = true) : CallR X (.type "set") (rSetL X.K X.w) := by
  intro pins s σ H vs us Q I r h
  obtain ⟨a, ns, rfl, hs, hn, q⟩ := h
  obtain ⟨its, rv, hl, hz⟩ := I.list hs
  rw [Vals.ref1 r]
  refine set_of_ints ns (I.ok.hd hc) hl.isList rv.ints (by unfold scanBound; omega) fun g t c R hc' hk => ?_
  exact ⟨.ref _, upd H s.heap.objs.size (SetO X.w s.heap.objs.size (fun j => decide (j ∈ ns)) c), I.laid (t' := t) hk (Nat.le_refl _) (setO_new R), rfl, q _ c hc' (I.hok.fresh (Nat.le_refl _))⟩
def nSSet (f : Ev D) : Ev DO := fun e S => (f e S).bind fun d S => match (lsOf S d).bind intsL with
  | some ns => if ns.length < 64 then .ok (.lst ((sset ns).map D.int)) S else .bad
  | none => .bad
def nSortI (f : Ev D) : Ev DO := fun e S => (f e S).bind fun d S => match (lsOf S d).bind intsL with
  | some ns => .ok (.lst ((sortI ns).map D.int)) S
  | none => .bad
theorem VRs.ints_map {K : PySem.W.Frag} {am : AM} {H : Hp} : ∀ ns : List Int, VRs K am H (ns.map D.int) (ns.map V.int)
  | [] => .nil
  | n :: ns => .cons (.int n) (VRs.ints_map ns)
section
variable {cl : Str → Addr} {W : WX} {X : Cx} {a : Expr} {f : Ev D} {p p2 pos pos2 : Pos} {x y : Str}
theorem qn_sset (hc : X.calm = true) (hg : Gl X "sorted") (hm : X.mg "sorted" = none) (hg2 : Gl X "set") (hm2 : X.mg "set" = none) (ha : QE cl W X a f)
    (h0 : starEach [a] X.env = (false, eval a X.env) :: starEach [] X.env := by rfl)
    (h1 : starEach [.Call (.Name "set" p2) [a] [] pos2] X.env = (false, eval (.Call (.Name "set" p2) [a] [] pos2) X.env) :: starEach [] X.env := by rfl)
    (hpl : (backTo pos (starEach [] X.env)).any (·.1) = false := by rfl) (hpl2 : (backTo pos2 (starEach [] X.env)).any (·.1) = false := by rfl) :
    QN cl W X (.Call (.Name "sorted" p) [.Call (.Name "set" p2) [a] [] pos2] [] pos) (nSSet f) :=
  (pe_callB (cr_sortedSet hc) hg hm (by decide +kernel) (pa_cons (pe_callTy (cr_setL hc) hg2 hm2 (by decide +kernel) (pa_cons ha pa_nil h0) (by decide) (by decide) h0 hpl2) pa_nil h1) (by decide) (by decide) h1 hpl).imp fun σ H Q ⟨am, e, S, rs, re, q0⟩ =>
    ⟨am, e, S, rs, re, (PostN.step q0).imp fun v H1 ⟨am1, S1, d, _, g1, rs1, rv, q1⟩ => by
      cases e1 : (lsOf S1 d).bind intsL with
      | none => rw [e1] at q1; exact q1.elim
      | some ns =>
        rw [e1] at q1
        simp only at q1
        by_cases hl : ns.length < 64
        · rw [if_pos hl] at q1
          cases e2 : lsOf S1 d with
          | none => rw [e2] at e1; cases e1
          | some xs =>
            rw [e2, Option.bind_some] at e1
            obtain ⟨l, us, ev, h2, h3⟩ := lsOf_ok rs1 rv e2
            subst ev
            have h4 := ints_ok h3 e1
            subst h4
            refine ⟨l, ns, rfl, h2, by omega, fun p c hc hp => ?_⟩
            refine ⟨p, _, c, rfl, upd_same, by omega, fun ns' p' hs hm hl' hp' => ?_⟩
            have en : ns' = sset ns := uniq_pw hs (pw_sset ns) fun k => by rw [hm, mem_sset, decide_eq_true_iff]
            subst en
            exact PostN.laid q1 (g1.trans (Grow.upd hp)) (rs1.upd hp) hp' ⟨_, upd_same, VRs.ints_map _⟩
        · rw [if_neg hl] at q1
          exact q1.elim⟩
theorem qn_sortI (hg : Gl X "sorted") (hm : X.mg "sorted" = none) (ha : QE cl W X a f)
    (h0 : starEach [a] X.env = (false, eval a X.env) :: starEach [] X.env := by rfl) (hpl : (backTo pos (starEach [] X.env)).any (·.1) = false := by rfl) :
    QN cl W X (.Call (.Name "sorted" p) [a] [] pos) (nSortI f) :=
  (pe_callB cr_sortedI hg hm (by decide +kernel) (pa_cons ha pa_nil h0) (by decide) (by decide) h0 hpl).imp fun σ H Q ⟨am, e, S, rs, re, q0⟩ =>
    ⟨am, e, S, rs, re, (PostN.step q0).imp fun v H1 ⟨am1, S1, d, _, g1, rs1, rv, q1⟩ => by
      cases e1 : (lsOf S1 d).bind intsL with
      | none => rw [e1] at q1; exact q1.elim
      | some ns =>
        rw [e1] at q1
        cases e2 : lsOf S1 d with
        | none => rw [e2] at e1; cases e1
        | some xs =>
          rw [e2, Option.bind_some] at e1
          obtain ⟨l, us, ev, h2, h3⟩ := lsOf_ok rs1 rv e2
          subst ev
          have h4 := ints_ok h3 e1
          subst h4
          refine ⟨l, ns, rfl, h2, fun ns' p' hp hs hp' => ?_⟩
          have en : ns' = sortI ns := uniq_le hs (pw_sortI ns) (hp.trans (perm_sortI ns).symm)
          subst en
          exact PostN.laid q1 g1 rs1 hp' ⟨_, upd_same, VRs.ints_map _⟩⟩
end
end Pu
set_option Elab.async false
set_option linter.all false
set_option maxRecDepth 100000
namespace Pu
open PySem PySem.Spec PyProof.Rows L2
section
variable {P : Program} {w : World} {A : Around} {E : Value → Shared → Prop} {s : Shared}
theorem sorted_sq {t : Addr} {T : String} {o : Obj} {n : Nat} {vs : List Value} {k : Value → Int × Int} {R : Value → Shared → Prop} (hT : T = "list" ∨ T = "tuple") (ho : s.heap.get? t = some o) (hc : o.cls = .type T) (hd : o.data = .seq vs.toArray n) (hz : vs.length ≤ sizeLine)
    (hp : ∀ v ∈ vs, Srt.IsPair s.heap v (k v).1 (k v).2)
    (q : ∀ (g : Heap) (d : Addr) (out : List Value), SrtO.Srtd (fun v u => SrtO.lexB (k v) (k u)) out → SrtO.Stb (fun v u => SrtO.lexB (k v) (k u)) out vs → (∀ b o, s.heap.get? b = some o → g.get? b = some o) → s.heap.get? d = none → (∃ n, g.get? d = some (seqObj "list" out.toArray n)) → R (.ref d) { s with heap := g }) :
    wpAny (model P w) A (call (.builtin "sorted") [.ref t]) R E s := by
  refine Calls.call_function_entry kind_sorted plain_sorted entry_sorted (args_sorted1 (.ref t)) (by
    unfold Builtin.«sorted»
    refine wpAny_bind (m := checkCount "sorted" 1 1 _) (wpAny_pure (wpAny_bind (wpAny_collect_seq t hT ho hc hd (fun g hg => ?_) (by rw [List.size_toArray]; exact hz))))
    rw [List.toList_toArray]
    refine wpAny_bind (wpAny_newList ?_ hz)
    have at1 : (g.push (seqObj "list" vs.toArray 0)).get? g.objs.size = some (seqObj "list" vs.toArray 0) := Heap.get?_push_size _ rfl
    have kp : ∀ b o, s.heap.get? b = some o → b ≠ g.objs.size ∧ (g.push (seqObj "list" vs.toArray 0)).get? b = some o := fun b o e =>
      ⟨Nat.ne_of_lt (Heap.lt_size (hg b o e)), Heap.get?_push_of_some _ (hg b o e)⟩
    refine wpAny_bind (wpAny_holding (wpAny_call_entry slot_list_sort ⟨_, at1, rfl⟩ entry_list_sort (SrtO.list_sort_ord (SrtO.swo_lex k) at1 hz (fun h2 => SrtO.pairs_sortableO (by omega) (fun v hv => (hp v hv).keeps fun b o e _ => (kp b o e).2) fun o' e' => ?_) fun out hs hb => ⟨_, rfl, ?_⟩) (args_list_sort _)))
    · have e2 : some o' = some (seqObj "list" vs.toArray 0) := e'.symm.trans at1
      cases e2
      exact fun c => absurd (Value.type.inj c) (by decide)
    · have at2 : ∃ n, (sortedHeap (g.push (seqObj "list" vs.toArray 0)) g.objs.size vs out.toArray).get? g.objs.size = some (seqObj "list" out.toArray n) := sortedHeap_at at1
      refine wpAny_pure ⟨_, rfl, q _ g.objs.size out hs hb (fun b o e => ?_) ?_ at2⟩
      rotate_left
      · cases e : s.heap.get? g.objs.size with
        | none => rfl
        | some o' => exact absurd rfl (kp _ _ e).1
      obtain ⟨k1, k2⟩ := kp b o e
      rw [sortedHeap_old k1 (Heap.lt_size k2)]
      exact k2)
end

theorem obj_there {P : Program} {w : World} {H : Hp} {h : Heap} {a : Addr} {o : HO} (x : ObjOk P w H h a o) : ∃ u, h.get? a = some u := by
  cases o with
  | lst xs => obtain ⟨_, _, _, _, e⟩ := x; exact ⟨_, e⟩
  | tup xs => obtain ⟨_, _, _, _, e, _⟩ := x; exact ⟨_, e⟩
  | dK kvs => obtain ⟨_, _, _, _, o, _, _, e, _⟩ := x; exact ⟨_, e⟩
  | dT kvs => obtain ⟨_, _, _, _, o, _, _, e, _⟩ := x; exact ⟨_, e⟩
  | set S n => obtain ⟨o, _, _, _, e, _⟩ := x; exact ⟨_, e⟩
  | ins C dx fs => obtain ⟨_, _, _, e, _⟩ := x; exact ⟨_, e⟩
  | own y => exact x
  | xd fs => obtain ⟨_, ⟨_, _, _, e, _⟩, _⟩ := x; exact ⟨_, e⟩
  | rng lo hi => obtain ⟨_, _, _, e⟩ := x; exact ⟨_, e⟩
  | frz ob u => obtain ⟨e, _⟩ := x; exact ⟨_, e⟩
  | tbl ps => exact ⟨_, x⟩
  | met f y => exact ⟨_, x⟩
  | ext φ => exact x.2.1
def insP (k : Int × Int) : List (Int × Int) → List (Int × Int)
  | [] => [k]
  | x :: xs => if SrtO.lexB x k = true then x :: insP k xs else k :: x :: xs
def sortP (ps : List (Int × Int)) : List (Int × Int) := ps.foldr insP []
theorem perm_insP {k : Int × Int} : ∀ {xs : List (Int × Int)}, (insP k xs).Perm (k :: xs)
  | [] => .refl _
  | x :: xs => by
    unfold insP
    split
    · exact ((perm_insP (k := k) (xs := xs)).cons x).trans (.swap k x xs)
    · exact .refl _
abbrev leP (p q : Int × Int) : Prop := p.1 < q.1 ∨ (p.1 = q.1 ∧ p.2 ≤ q.2)
theorem leP_of {p q : Int × Int} (h : SrtO.lexB q p = false) : leP p q := by
  have := SrtO.lexB_no.mp h
  unfold leP
  omega
theorem leP_trans {p q r : Int × Int} (h : leP p q) (h' : leP q r) : leP p r := by
  unfold leP at *
  omega
theorem pw_insP {k : Int × Int} : ∀ {xs : List (Int × Int)}, xs.Pairwise leP → (insP k xs).Pairwise leP
  | [], _ => List.pairwise_singleton _ _
  | x :: xs, h => by
    obtain ⟨h1, h2⟩ := List.pairwise_cons.mp h
    unfold insP
    split
    · rename_i hk
      refine List.pairwise_cons.mpr ⟨fun y hy => ?_, pw_insP h2⟩
      rcases List.mem_cons.mp (perm_insP.mem_iff.mp hy) with e | hy
      · subst e
        have := SrtO.lexB_iff.mp hk
        unfold leP
        omega
      · exact h1 y hy
    · rename_i hk
      have hx : leP k x := leP_of (by simpa using hk)
      refine List.pairwise_cons.mpr ⟨fun y hy => ?_, h⟩
      rcases List.mem_cons.mp hy with e | hy
      · subst e; exact hx
      · exact leP_trans hx (h1 y hy)
theorem perm_sortP : ∀ ps : List (Int × Int), (sortP ps).Perm ps
  | [] => .refl _
  | n :: ns => perm_insP.trans ((perm_sortP ns).cons n)
theorem pw_sortP : ∀ ps : List (Int × Int), (sortP ps).Pairwise leP
  | [] => List.Pairwise.nil
  | n :: ns => pw_insP (pw_sortP ns)
theorem uniq_leP {xs ys : List (Int × Int)} (hx : xs.Pairwise leP) (hy : ys.Pairwise leP) (h : xs.Perm ys) : xs = ys :=
  h.eq_of_pairwise (le := leP) (fun a b _ _ h1 h2 => by
    obtain ⟨a1, a2⟩ := a
    obtain ⟨b1, b2⟩ := b
    simp only [leP] at h1 h2
    simp only [Prod.mk.injEq]
    omega) hx hy
/-- the pair that lies at a value -/
def pairAt (h : Heap) (v : Value) : Int × Int := match v with
  | .ref t => match h.get? t with
    | some o => match o.data with
      | .seq xs _ => match xs.toList with
        | [.int i _, .int j _] => (i, j)
        | _ => (0, 0)
      | _ => (0, 0)
    | none => (0, 0)
  | _ => (0, 0)
def rSortedPQ (K : PySem.W.Frag) : List V → Hp → VK → Prop := fun vs H Q => ∃ (a : Addr) (xs : List V) (ps : List (Int × Int)) (R : V → Int × Int → Prop), vs = [V.ref a] ∧ (SqL K H a xs ∨ SqT K H a xs) ∧ Paired R xs ps ∧ (∀ x p, R x p → ∃ t, x = V.ref t ∧ SqT K H t [.int p.1, .int p.2]) ∧
  ∀ ys q, Paired R ys (sortP ps) → H q = none → Q (.ref q) (upd H q (.lst ys))
theorem cr_sortedPQ {X : Cx} : CallR X (.builtin "sorted") (rSortedPQ X.K) := by
  intro pins s σ H vs us Q I r h
  obtain ⟨a, xs, ps, R, rfl, hs, hR, hx, q⟩ := h
  obtain ⟨u, rfl, ru⟩ := vals1 r
  obtain rfl : u = Value.ref a := ru
  have hsq : ∃ (its : List Value) (T : String) (o : Obj) (n : Nat), Vals xs its ∧ xs.length ≤ sizeLine ∧ (T = "list" ∨ T = "tuple") ∧ s.heap.get? a = some o ∧ o.cls = .type T ∧ o.data = .seq its.toArray n := by
    rcases hs with hs | hs
    · obtain ⟨its, rv, ⟨o, n, e, hc, _, hd⟩, hz⟩ := I.list hs
      exact ⟨its, "list", o, n, rv, hz, .inl rfl, e, hc, hd⟩
    · obtain ⟨its, rv, ⟨o, e, hc, n, hd⟩, hz⟩ := I.tuple hs
      exact ⟨its, "tuple", o, n, rv, hz, .inr rfl, e, hc, hd⟩
  obtain ⟨its, T, o, n, rv, hz, hT, ho, hc, hd⟩ := hsq
  have key : ∀ x p v, R x p → RelV x v → Srt.IsPair s.heap v p.1 p.2 ∧ x = backV v ∧ pairAt s.heap v = p ∧ ∃ t, v = Value.ref t := by
    intro x p v hxp hv
    obtain ⟨t, rfl, hq⟩ := hx x p hxp
    obtain rfl : v = Value.ref t := hv
    obtain ⟨its2, r2, ⟨o2, ho2, hc2, n2, hd2⟩, _⟩ := I.tuple hq
    obtain ⟨u1, u2, rfl, ri, rj⟩ := vals2 r2
    obtain ⟨t1, rfl⟩ := ri
    obtain ⟨t2, rfl⟩ := rj
    refine ⟨⟨t, o2, t1, t2, n2, rfl, ho2, hc2, hd2⟩, rfl, ?_, t, rfl⟩
    simp only [pairAt, ho2, hd2]
  have all : ∀ {xs : List V} {ps : List (Int × Int)} {its : List Value}, Paired R xs ps → Vals xs its → its.map (pairAt s.heap) = ps ∧ ∀ v ∈ its, R (backV v) (pairAt s.heap v) ∧ Srt.IsPair s.heap v (pairAt s.heap v).1 (pairAt s.heap v).2 ∧ ∃ t, v = Value.ref t := by
    intro xs ps its h1
    induction h1 generalizing its with
    | nil => intro h2; cases h2; exact ⟨rfl, fun v hv => absurd hv (by simp)⟩
    | cons r1 _ ih =>
      intro h2
      cases h2 with
      | cons rv t =>
        obtain ⟨k1, k2, k3, k4⟩ := key _ _ _ r1 rv
        obtain ⟨i1, i2⟩ := ih t
        refine ⟨by rw [List.map_cons, k3, i1], fun v hv => ?_⟩
        rcases List.mem_cons.mp hv with e | hv
        · subst e
          rw [k3, ← k2]
          exact ⟨r1, k1, k4⟩
        · exact i2 v hv
  obtain ⟨e1, e2⟩ := all hR rv
  refine sorted_sq (k := pairAt s.heap) hT ho hc hd (by rw [← rv.length]; exact hz) (fun v hv => (e2 v hv).2.1) fun g d out h1 h2 kp hn0 hn => ?_
  have h3 : ∀ v ∈ out, R (backV v) (pairAt s.heap v) ∧ ∃ t, v = Value.ref t := fun v hv => by
    obtain ⟨i1, _, i3⟩ := e2 v (h2.perm.mem_iff.mp hv)
    exact ⟨i1, i3⟩
  have h4 : out.map (pairAt s.heap) = sortP ps := by
    refine uniq_leP (List.pairwise_map.mpr (h1.imp fun {x y} h => leP_of h)) (pw_sortP ps) ?_
    have := h2.perm.map (pairAt s.heap)
    rw [e1] at this
    exact this.trans (perm_sortP ps).symm
  have h5 : ∀ zs : List Value, (∀ v ∈ zs, R (backV v) (pairAt s.heap v)) → Paired R (zs.map backV) (zs.map (pairAt s.heap)) := by
    intro zs
    induction zs with
    | nil => intro _; exact .nil
    | cons z zs ih => intro h; exact .cons (h z List.mem_cons_self) (ih fun v hv => h v (List.mem_cons_of_mem _ hv))
  have hd0 : H d = none := by
    cases e : H d with
    | none => rfl
    | some u =>
      obtain ⟨u', hu⟩ := obj_there (I.hok d u e)
      rw [hn0] at hu
      cases hu
  obtain ⟨m, hm⟩ := hn
  have h6 := h5 out fun v hv => (h3 v hv).1
  rw [h4] at h6
  refine ⟨.ref d, upd H d (.lst (out.map backV)), I.laidN (t' := s.toks) kp hn0 hd0 ⟨?_, out, m, vals_back fun u hu => (h3 u hu).2, hm⟩, rfl, q _ d h6 hd0⟩
  rw [List.length_map, h2.perm.length_eq, ← rv.length]
  exact hz
abbrev rowD : Int × Int → D := prD D.int D.int
def prsL : List D → Option (List (Int × Int))
  | [] => some []
  | .tup [.int i, .int j] :: xs => (prsL xs).map ((i, j) :: ·)
  | _ :: _ => none
theorem prsL_map : ∀ ps : List (Int × Int), prsL (ps.map rowD) = some ps
  | [] => rfl
  | p :: ps => by
    have := prsL_map ps
    show (prsL (ps.map rowD)).map ((p.1, p.2) :: ·) = _
    rw [this]
    rfl
theorem prsL_eq : ∀ {xs : List D} {ps : List (Int × Int)}, prsL xs = some ps → xs = ps.map rowD := by
  intro xs
  induction xs with
  | nil => intro ps h; cases h; rfl
  | cons x xs ih =>
    intro ps h
    unfold prsL at h
    split at h
    · cases h; rename_i e; cases e
    · rename_i i j ys e
      cases e
      cases q : prsL xs with
      | none => rw [q] at h; cases h
      | some qs =>
        rw [q] at h
        cases h
        rw [ih q]
        rfl
    · cases h
def nSortP (f : Ev D) : Ev DO := fun e S => (f e S).bind fun d S => match (sqOf S d).bind prsL with
  | some ps => .ok (.lst ((sortP ps).map rowD)) S
  | none => .bad
section
variable {cl : Str → Addr} {W : WX} {X : Cx} {a : Expr} {f : Ev D} {p pos : Pos}
theorem vrs_pair {K : PySem.W.Frag} {am : AM} {H : Hp} : ∀ {ps : List (Int × Int)} {vs : List V}, VRs K am H (ps.map rowD) vs → Paired (fun x p => VR K am H (rowD p) x) vs ps
  | [], _, .nil => .nil
  | _ :: _, _, .cons h t => .cons h (vrs_pair t)
theorem pair_vrs {K : PySem.W.Frag} {am : AM} {H : Hp} : ∀ {ps : List (Int × Int)} {vs : List V}, Paired (fun x p => VR K am H (rowD p) x) vs ps → VRs K am H (ps.map rowD) vs
  | [], _, .nil => .nil
  | _ :: _, _, .cons h t => .cons h (pair_vrs t)
theorem row_sq {K : PySem.W.Frag} {am : AM} {H : Hp} {q : Int × Int} {x : V} (h : VR K am H (rowD q) x) : ∃ t, x = V.ref t ∧ SqT K H t [.int q.1, .int q.2] := by
  cases h with
  | tup t hs =>
    cases hs with
    | cons h1 hs =>
      cases h1
      cases hs with
      | cons h2 hs =>
        cases h2
        cases hs
        exact ⟨_, rfl, t.seq⟩
theorem qn_sortP (hg : Gl X "sorted") (hm : X.mg "sorted" = none) (ha : QE cl W X a f)
    (h0 : starEach [a] X.env = (false, eval a X.env) :: starEach [] X.env := by rfl) (hpl : (backTo pos (starEach [] X.env)).any (·.1) = false := by rfl) :
    QN cl W X (.Call (.Name "sorted" p) [a] [] pos) (nSortP f) :=
  (pe_callB cr_sortedPQ hg hm (by decide +kernel) (pa_cons ha pa_nil h0) (by decide) (by decide) h0 hpl).imp fun σ H Q ⟨am, e, S, rs, re, q0⟩ =>
    ⟨am, e, S, rs, re, (PostN.step q0).imp fun v H1 ⟨am1, S1, d, _, g1, rs1, rv, q1⟩ => by
      cases e1 : (sqOf S1 d).bind prsL with
      | none => rw [e1] at q1; exact q1.elim
      | some ps =>
        rw [e1] at q1
        cases e2 : sqOf S1 d with
        | none => rw [e2] at e1; cases e1
        | some xs =>
          rw [e2, Option.bind_some] at e1
          obtain ⟨l, us, ev, h2, h3⟩ := sqOf_ok rs1 rv e2
          subst ev
          rw [prsL_eq e1] at h3
          exact ⟨l, us, ps, fun x p => VR X.K am1 H1 (rowD p) x, rfl, h2, vrs_pair h3, fun x p h => row_sq h, fun ys p' hp hp' => PostN.laid q1 g1 rs1 hp' ⟨_, upd_same, (pair_vrs hp).mono (Grow.resv hp')⟩⟩⟩
end
end Pu
set_option Elab.async false
set_option linter.all false
set_option maxRecDepth 100000
namespace Pu
open PySem PySem.Spec PyProof.Rows L2
section
variable {cl : Str → Addr} {W : WX} {X : Cx} {a b o : Expr} {f g : Ev D} {pos apos cpos : Pos}
def isBD (neg : Bool) (d e : D) (S : Sto) : Res D := match d, e with
  | .bl x, .bl y => .ok (.bl (if neg = true then !decide (x = y) else decide (x = y))) S
  | _, _ => .bad
@[simp] theorem isBD_bl {neg x y : Bool} {S : Sto} : isBD neg (.bl x) (.bl y) S = .ok (.bl (if neg = true then !decide (x = y) else decide (x = y))) S := id rfl
theorem ok_isB : Ok2 X.K cl (fun x y H Q => ∃ a b, x = .bl a ∧ y = .bl b ∧ Q (.bl (decide (a = b))) H) (isBD false) := fun W σ am S H d e v u Q rs h1 h2 p => by
  cases h1 with
  | bl x => cases h2 with
    | bl y => exact ⟨x, y, rfl, rfl, p am _ H .refl rs (.bl _)⟩
    | _ => exact p.elim
  | _ => cases h2 <;> exact p.elim
theorem ok_notB : Ok2 X.K cl (fun x y H Q => ∃ a b, x = .bl a ∧ y = .bl b ∧ Q (.bl (!decide (a = b))) H) (isBD true) := fun W σ am S H d e v u Q rs h1 h2 p => by
  cases h1 with
  | bl x => cases h2 with
    | bl y => exact ⟨x, y, rfl, rfl, p am _ H .refl rs (.bl _)⟩
    | _ => exact p.elim
  | _ => cases h2 <;> exact p.elim
theorem qe_isB (ha : QE cl W X a f) (hb : QE cl W X b g) (hm : behindInMarks .Is b = false := by rfl) : QE cl W X (.Compare a [.Is] [b] pos) (e2 (isBD false) f g) := qe_cmp op_is_bl ok_isB ha hb hm
theorem qt_isB (ha : QE cl W X a f) (hb : QE cl W X b g) (hm : behindInMarks .Is b = false := by rfl) : QT cl W X (.Compare a [.Is] [b] pos) (eTB (e2 (isBD false) f g)) := qt_cmp op_is_bl ok_isB ha hb hm
theorem qe_notB (ha : QE cl W X a f) (hb : QE cl W X b g) (hm : behindInMarks .IsNot b = false := by rfl) : QE cl W X (.Compare a [.IsNot] [b] pos) (e2 (isBD true) f g) := qe_cmp op_isnot_bl ok_notB ha hb hm
theorem qt_notB (ha : QE cl W X a f) (hb : QE cl W X b g) (hm : behindInMarks .IsNot b = false := by rfl) : QT cl W X (.Compare a [.IsNot] [b] pos) (eTB (e2 (isBD true) f g)) := qt_cmp op_isnot_bl ok_notB ha hb hm
/-- xs.pop(i) -/
def popD (o : D) (ds : List D) (S : Sto) : Res D := match o, ds with
  | .ref k, [.int i] => match S[k]? with
    | some (.lst xs) => match ixN xs.length i with
      | some n => match xs[n]? with
        | some y => if -(2 ^ 63) ≤ i ∧ i < 2 ^ 63 then .ok y (S.set k (.lst (xs.eraseIdx n))) else .bad
        | none => .bad
      | none => .bad
    | _ => .bad
  | _, _ => .bad
theorem VRs.erase {K : PySem.W.Frag} {am : AM} {H : Hp} : ∀ {ds : List D} {vs : List V} (n : Nat), VRs K am H ds vs → VRs K am H (ds.eraseIdx n) (vs.eraseIdx n)
  | _, _, _, .nil => .nil
  | _, _, 0, .cons _ t => t
  | _, _, n + 1, .cons h t => .cons h (VRs.erase n t)
theorem ok_pop : OkM X.K cl "list" rPopAt popD := by
  intro W σ am S H o ds x vs Q rs h1 h2 p
  cases h1 with
  | @ref k a hk =>
    cases h2 with
    | nil => exact p.elim
    | cons r1 r2 =>
      cases r2 with
      | cons _ _ => cases r1 <;> exact p.elim
      | nil =>
        cases r1 with
        | int i =>
          simp only [popD] at p
          cases e1 : S[k]? with
          | none => rw [e1] at p; exact p.elim
          | some ob =>
            rw [e1] at p
            cases ob with
            | lst xs =>
              obtain ⟨us, q1, q2⟩ := rs.ob k _ a e1 hk
              simp only at p
              cases e2 : ixN xs.length i with
              | none => rw [e2] at p; exact p.elim
              | some n =>
                rw [e2] at p
                simp only at p
                cases e3 : xs[n]? with
                | none => rw [e3] at p; exact p.elim
                | some y =>
                  rw [e3] at p
                  simp only at p
                  by_cases hz : -(2 ^ 63) ≤ i ∧ i < 2 ^ 63
                  · rw [if_pos hz] at p
                    obtain ⟨u, hu, ru⟩ := q2.get e3
                    have hm : a ∈ am.ad := List.mem_of_getElem? hk
                    refine ⟨a, us, i, n, u, rfl, rfl, q1, hz.1, hz.2, ?_, hu, p am _ _ (Grow.put hm) (rs.put hk ⟨_, upd_same, (q2.erase n).mono (Grow.put hm)⟩) (ru.mono (Grow.put hm))⟩
                    rw [← q2.length]
                    exact (ixN_seq e2).1
                  · rw [if_neg hz] at p
                    exact p.elim
            | _ => exact p.elim
        | _ => exact p.elim
  | _ => exact p.elim
theorem qe_pop1 (ho : QE cl W X o g) (ha : QE cl W X a f) (h0 : starEach [a] X.env = (false, eval a X.env) :: starEach [] X.env := by rfl)
    (hbase : attributeBase o "pop" X.env (eval o X.env) = eval o X.env := by rfl)
    (hfew : ((backTo cpos (starEach [a] X.env)).all (fun x => !x.1) && (backToKw cpos (keywordEach [] X.env)).all (fun x => x.1.isSome) && decide (([a] : List Expr).length + ([] : List Keyword).length + (if ([] : List Keyword).isEmpty then 0 else 1) < 30)) = true := by rfl)
    (hline : (apos.endLine == cpos.line) = true := by rfl) (hplain : (backTo cpos (starEach [] X.env)).any (·.1) = false := by rfl) :
    QE cl W X (.Call (.Attribute o "pop" apos) [a] [] cpos) (eM "list" popD g [f]) := qe_bm PySem.F.plainAttrs_list PySem.F.slot_list_pop PySem.F.type_list_pop mt_popAt ok_pop ho (qa_cons ha qa_nil h0) hbase hfew hline h0 hplain
end

def srcS (d : D) (S : Sto) : Res Src := match d with
  | .tup xs => srcT (.tup xs) S
  | d => srcL d S
def iS (f : Ev D) : Ev Src := fun e S => (f e S).bind srcS
theorem iS_is (f : Ev D) (e : En) (S : Sto) : iS f e S = iT f e S ∨ iS f e S = iL f e S := by
  unfold iS iT iL
  cases f e S with
  | ok d S1 =>
    cases d with
    | tup xs => exact .inl rfl
    | _ => exact .inr rfl
  | exc c S1 => exact .inl rfl
  | bad => exact .inl rfl
theorem qi_s {cl : Str → Addr} {W : WX} {X : Cx} {a tgE : Expr} {f : Ev D} (ha : QE cl W X a f) : QI cl W X tgE a (iS f) := ⟨fun pins s σ H R I h => by
  obtain ⟨am, e, S, rs, re, p⟩ := h
  rcases iS_is f e S with q | q
  · exact (qi_t ha).run pins s σ H R I ⟨am, e, S, rs, re, by rw [← q]; exact p⟩
  · exact (qi_l ha).run pins s σ H R I ⟨am, e, S, rs, re, by rw [← q]; exact p⟩⟩
section
variable {dead vs : List Nat} {tg : Tg} {f g : Ev D} {a : Stm} {e : En} {S : Sto} {xs ys : List D} {t : Ev Bool}
@[simp] theorem ap_iS : iS f e S = (f e S).bind srcS := id rfl
@[simp] theorem srcS_tup : srcS (.tup xs) S = .ok (.tmp xs) S := id rfl
@[simp] theorem srcS_lst : srcS (.lst xs) S = .ok (.tmp xs) S := id rfl
@[simp] theorem srcS_fls : srcS (.fls xs) S = .ok (.tmp xs) S := id rfl
theorem srcS_ref {k : Nat} (h : S[k]? = some (.lst xs)) : srcS (.ref k) S = .ok (.st k xs) S := srcL_ref h
/-- data that are walked -/
def isSq (d : D) (xs : List D) : Prop := d = .tup xs ∨ d = .lst xs ∨ d = .fls xs
theorem forS {d : D} (hf : f e S = .ok d S) (h : isSq d xs) : sFor dead tg (iS f) a e S = forD dead tg (.tmp xs) a xs e S := by
  rcases h with rfl | rfl | rfl <;> · rw [ap_For, ap_iS, hf, Res.bind_ok]; rfl
theorem forS_tup (hf : f e S = .ok (.tup xs) S) : sFor dead tg (iS f) a e S = forD dead tg (.tmp xs) a xs e S := forS hf (.inl rfl)
theorem forS_lst (hf : f e S = .ok (.lst xs) S) : sFor dead tg (iS f) a e S = forD dead tg (.tmp xs) a xs e S := forS hf (.inr (.inl rfl))
theorem forS_ref {k : Nat} (hf : f e S = .ok (.ref k) S) (h : S[k]? = some (.lst xs)) : sFor dead tg (iS f) a e S = forD dead tg (.st k xs) a xs e S := by
  rw [ap_For, ap_iS, hf, Res.bind_ok, srcS_ref h]
  rfl
theorem nLcS {d : D} (hf : f e S = .ok d S) (h : isSq d xs) (hl : xs.length < 1048576) (q : lcD tg (.tmp xs) t g (wipeE e vs) xs S = .ok ys S) : nLc vs tg (iS f) t g e S = .ok (.lst ys) S := by
  have e1 : iS f e S = .ok (.tmp xs) S := by
    rcases h with rfl | rfl | rfl <;> · rw [ap_iS, hf, Res.bind_ok]; rfl
  rw [ap_Lc, e1, Res.bind_ok]
  simp only [Src.items_tmp]
  rw [if_pos (Nat.le_of_lt (sz hl)), q, Res.bind_ok]
theorem nLcS_tup (hf : f e S = .ok (.tup xs) S) (hl : xs.length < 1048576) (q : lcD tg (.tmp xs) t g (wipeE e vs) xs S = .ok ys S) : nLc vs tg (iS f) t g e S = .ok (.lst ys) S := nLcS hf (.inl rfl) hl q
theorem nLcS_lst (hf : f e S = .ok (.lst xs) S) (hl : xs.length < 1048576) (q : lcD tg (.tmp xs) t g (wipeE e vs) xs S = .ok ys S) : nLc vs tg (iS f) t g e S = .ok (.lst ys) S := nLcS hf (.inr (.inl rfl)) hl q
/-- over a range -/
theorem nLcR1 {n : Nat} (hf : f e S = .ok (.int n) S) (hl : n < 1048576) (q : lcD tg (.tmp (rngD 0 n)) t g (wipeE e vs) (rngD 0 n) S = .ok ys S) : nLc vs tg (iR1 f) t g e S = .ok (.lst ys) S := by
  rw [ap_Lc, ap_iR1, hf, Res.bind_ok, srcR1_ap, if_pos (rg hl), Res.bind_ok]
  simp only [Src.items_tmp]
  rw [if_pos (Nat.le_of_lt (sz (by simp; omega))), q, Res.bind_ok]
end
theorem intsD_map {f : List Int → D} {ns : List Int} {S : Sto} : intsD f [.lst (ns.map D.int)] S = .ok (f ns) S := by
  simp only [intsD, lsOf_lst, Option.bind_some, Pu.ints_map]
theorem addT {α : Type} {f : α → D} {xs ys : List α} {S : Sto} (h : xs.length + ys.length < 1000000) : addD (tpD f xs) (tpD f ys) S = .ok (tpD f (xs ++ ys)) S := by
  unfold tpD
  rw [addD_tup, if_pos (Nat.le_of_lt (sz (by simp only [List.length_map]; omega))), List.map_append]
theorem nss {S : Sto} {e : En} {n : Ev DO} {ns : List Int} (h : n e S = .ok (.lst (ns.map D.int)) S) (hl : ns.length < 64) : nSSet (eAno n) e S = .ok (.lst ((sset ns).map D.int)) S := by
  simp only [nSSet, goS, h, lsOf_lst, Option.bind_some, Pu.ints_map, if_pos hl]
abbrev intsT : List Int → D := tpD D.int
theorem rpRow : Rp rowD 1 := Rp.int.pr Rp.int
theorem rng_map {n : Nat} : rngD 0 n = (List.range n).map fun k : Nat => D.int (k : Int) := by
  simp [rngD]
theorem rng_nat {i : Int} : rngD 0 i = rngD 0 (i.toNat : Int) := by
  unfold rngD
  congr 2
  omega
theorem nLcRi {vs : List Nat} {tg : Tg} {f g : Ev D} {e : En} {S : Sto} {ys : List D} {t : Ev Bool} {i : Int} (n : Nat) (hf : f e S = .ok (.int i) S) (hn : i.toNat = n) (h0 : -1000000 < i) (hl : n < 1048576) (q : lcD tg (.tmp (rngD 0 n)) t g (wipeE e vs) (rngD 0 n) S = .ok ys S) : nLc vs tg (iR1 f) t g e S = .ok (.lst ys) S := by
  subst hn
  rw [ap_Lc, ap_iR1, hf, Res.bind_ok, srcR1_ap, if_pos (by unfold Rg62; omega), Res.bind_ok]
  simp only [Src.items_tmp]
  rw [if_pos (Nat.le_of_lt (sz (by simp; omega))), rng_nat, q, Res.bind_ok]
theorem cut_from {α : Type} {xs : List α} {a : Nat} : cutL xs (some (a : Int)) none = xs.drop a := by
  unfold cutL
  rw [HT.sIx_nat, HT.sIx_none]
  by_cases h : a ≤ xs.length
  · rw [Nat.min_eq_left h, List.take_of_length_le (by simp)]
  · rw [Nat.min_eq_right (by omega), List.drop_of_length_le (Nat.le_refl _), List.drop_of_length_le (by omega)]
    simp
theorem cut_to {α : Type} {xs : List α} {a : Nat} : cutL xs none (some (a : Int)) = xs.take a := by
  unfold cutL
  rw [HT.sIx_nat, HT.sIx_none, List.drop_zero, Nat.sub_zero]
  by_cases h : a ≤ xs.length
  · rw [Nat.min_eq_left h]
  · rw [Nat.min_eq_right (by omega), List.take_of_length_le (Nat.le_refl _), List.take_of_length_le (by omega)]
theorem cut_mid {α : Type} {xs : List α} {a b : Nat} (h : a ≤ b) : cutL xs (some (a : Int)) (some (b : Int)) = (xs.drop a).take (b - a) := by
  unfold cutL
  rw [HT.sIx_nat, HT.sIx_nat]
  by_cases h1 : a ≤ xs.length
  · rw [Nat.min_eq_left h1]
    by_cases h2 : b ≤ xs.length
    · rw [Nat.min_eq_left h2]
    · rw [Nat.min_eq_right (by omega), List.take_of_length_le (by simp), List.take_of_length_le (by simp; omega)]
  · rw [Nat.min_eq_right (show xs.length ≤ a by omega), List.drop_of_length_le (Nat.le_refl _), List.drop_of_length_le (show xs.length ≤ a by omega)]
    simp
@[simp] theorem slD_tup {xs : List D} {lo hi : Option Int} {S : Sto} : slD (.tup xs) lo hi S = .ok (.tup (cutL xs lo hi)) S := id rfl
@[simp] theorem slD_lst {xs : List D} {lo hi : Option Int} {S : Sto} : slD (.lst xs) lo hi S = .ok (.lst (cutL xs lo hi)) S := id rfl
theorem slD_ref {k : Nat} {xs : List D} {lo hi : Option Int} {S : Sto} (h : S[k]? = some (.lst xs)) : slD (.ref k) lo hi S = .ok (.lst (cutL xs lo hi)) S := by
  simp [slD, lsOf, h]
theorem addL {xs ys : List D} {S : Sto} (h : xs.length + ys.length < 1000000) : addD (.lst xs) (.lst ys) S = .ok (.lst (xs ++ ys)) S := by
  have e : addD (.lst xs) (.lst ys) S = catL (some xs) (some ys) S := rfl
  rw [e]
  unfold catL
  simp only
  rw [if_pos (Nat.le_of_lt (sz (by omega)))]
theorem popD_ref {k n : Nat} {i : Int} {xs : List D} {y : D} {S : Sto} (h : S[k]? = some (.lst xs)) (hi : i = (n : Int)) (hn : n < 1048576) (hy : xs[n]? = some y) : popD (.ref k) [.int i] S = .ok y (S.set k (.lst (xs.eraseIdx n))) := by
  subst hi
  have hl : n < xs.length := (List.getElem?_eq_some_iff.mp hy).1
  have e : ixN xs.length (n : Int) = some n := by
    unfold ixN
    rw [if_pos (by omega), if_pos (by omega)]
    rfl
  simp only [popD, h, e, hy]
  rw [if_pos (by omega)]
theorem nSortP_tup {f : Ev D} {e : En} {S : Sto} {ps : List (Int × Int)} (h : f e S = .ok (tpD rowD ps) S) : nSortP f e S = .ok (.lst ((sortP ps).map rowD)) S := by
  unfold nSortP
  rw [h, Res.bind_ok]
  simp only [tpD, sqOf_tup, Option.bind_some, prsL_map]
end Pu
set_option Elab.async false
set_option linter.all false
set_option maxRecDepth 100000
namespace Pu
open PySem PySem.Spec PyProof.Rows L2
def getD2 (o i z : D) (S : Sto) : Res D := match dcOf S o with
  | some kvs => match keyOf i with
    | some k => .ok ((getK kvs k).getD z) S
    | none => .bad
  | none => .bad
def eGet (f g h : Ev D) : Ev D := fun e S => (f e S).bind fun o S => if (dcOf S o).isSome = true then (g e S).bind fun i S => (h e S).bind fun z S => getD2 o i z S else .bad
/-- the keys, all of them ints -/
def keysI : List (Key × D) → Option (List Int)
  | [] => some []
  | (.inl i, _) :: r => (keysI r).map (i :: ·)
  | _ :: _ => none
def nSortD (f : Ev D) : Ev DO := fun e S => (f e S).bind fun d S => match (dcOf S d).bind keysI with
  | some ns => if ns.length < 64 then .ok (.lst ((sortI ns).map D.int)) S else .bad
  | none => .bad
theorem keysI_ok {K : PySem.W.Frag} {am : AM} {H : Hp} : ∀ {ds : List (Key × D)} {vs : List (Key × V)} {ns : List Int}, VRk K am H ds vs → keysI ds = some ns → vs.map (·.1) = ns.map Sum.inl
  | _, _, _, .nil, e => by cases e; rfl
  | _, _, ns, .cons (k := k) (ds := ds) h t, e => by
    cases k with
    | inl i =>
      simp only [keysI] at e
      cases q : keysI ds with
      | none => rw [q] at e; cases e
      | some ms =>
        rw [q] at e
        cases e
        rw [List.map_cons, keysI_ok t q]
        rfl
    | inr x => cases e
section
variable {cl : Str → Addr} {W : WX} {X : Cx} {a b c : Expr} {f g h : Ev D} {p pos apos cpos : Pos}
theorem qe_get {k : Nat} (hr : Room k X.A) (ho : QE cl W X a f) (hi : QE cl W X b g) (hz : QE cl W X c h)
    (m1 : attributeBase a "get" X.env (eval a X.env) = eval a X.env := by rfl)
    (m2 : ((backTo cpos (starEach [b, c] X.env)).all (fun x => !x.1) && (backToKw cpos (keywordEach [] X.env)).all (fun x => x.1.isSome) && decide (([b, c] : List Expr).length + ([] : List Keyword).length + (if ([] : List Keyword).isEmpty then 0 else 1) < 30)) = true := by rfl)
    (m3 : (apos.endLine == cpos.line) = true := by rfl) (m4 : backTo cpos (starEach [b, c] X.env) = [(false, eval b X.env), (false, eval c X.env)] := by rfl) :
    QE cl W X (.Call (.Attribute a "get" apos) [b, c] [] cpos) (eGet f g h) :=
  (pe_dget2 (hu_of hr) ho hi hz ⟨m1, m2, m3, m4⟩).imp fun σ H Q ⟨am, e, S, rs, re, q0⟩ =>
    ⟨am, e, S, rs, re, (Post.step q0).imp fun x H1 ⟨am1, S1, d1, _, g1, rs1, rv1, q1⟩ => by
      cases e1 : dcOf S1 d1 with
      | none => simp only [e1] at q1; exact q1.elim
      | some kvs =>
        simp only [e1, Option.isSome_some, if_true] at q1
        obtain ⟨l, us, ev, h1, h2⟩ := dcOf_ok rs1 rv1 e1
        subst ev
        refine ⟨l, rfl, .inl ⟨us, .inl h1⟩, am1, e, S1, rs1, re.mono g1, (Post.step q1).imp fun y H2 ⟨am2, S2, d2, _, g2, rs2, rv2, q2⟩ => ?_⟩
        refine ⟨am2, e, S2, rs2, (re.mono g1).mono g2, (Post.step q2).imp fun z H3 ⟨am3, S3, d3, _, g3, rs3, rv3, q3⟩ => ?_⟩
        have rv1' := (rv1.mono g2).mono g3
        unfold getD2 at q3
        cases e2 : dcOf S3 d1 with
        | none => rw [e2] at q3; exact q3.elim
        | some kvs3 =>
          rw [e2] at q3
          simp only at q3
          cases e3 : keyOf d2 with
          | none => rw [e3] at q3; exact q3.elim
          | some k =>
            rw [e3] at q3
            simp only at q3
            obtain ⟨l', us', ev, h3, h4⟩ := dcOf_ok rs3 rv1' e2
            cases ev
            refine ⟨valV us' k, .inl ⟨us', k, .inl h3, keyOf_ok rv2 e3, rfl⟩, ?_⟩
            rcases h4.get k with ⟨n1, n2⟩ | ⟨d, v, n1, n2, n3⟩
            · rw [n1] at q3
              rw [n2]
              exact q3 am3 _ H3 .refl rs3 rv3
            · rw [n1] at q3
              rw [n2]
              exact q3 am3 _ H3 .refl rs3 n3⟩
theorem qn_sortD (hc : X.calm = true) (hg : Gl X "sorted") (hm : X.mg "sorted" = none) (ha : QE cl W X a f)
    (h0 : starEach [a] X.env = (false, eval a X.env) :: starEach [] X.env := by rfl) (hpl : (backTo pos (starEach [] X.env)).any (·.1) = false := by rfl) :
    QN cl W X (.Call (.Name "sorted" p) [a] [] pos) (nSortD f) :=
  (pe_callB (call_sortedDI hc) hg hm (by decide +kernel) (pa_cons ha pa_nil h0) (by decide) (by decide) h0 hpl).imp fun σ H Q ⟨am, e, S, rs, re, q0⟩ =>
    ⟨am, e, S, rs, re, (PostN.step q0).imp fun v H1 ⟨am1, S1, d, _, g1, rs1, rv, q1⟩ => by
      cases e1 : (dcOf S1 d).bind keysI with
      | none => rw [e1] at q1; exact q1.elim
      | some ns =>
        rw [e1] at q1
        simp only at q1
        by_cases hl : ns.length < 64
        · rw [if_pos hl] at q1
          cases e2 : dcOf S1 d with
          | none => rw [e2] at e1; cases e1
          | some xs =>
            rw [e2, Option.bind_some] at e1
            obtain ⟨l, us, ev, h2, h3⟩ := dcOf_ok rs1 rv e2
            subst ev
            refine ⟨l, us, ns, rfl, .inl h2, keysI_ok h3 e1, hl, fun ns' p' hp hs hp' => ?_⟩
            have en : ns' = sortI ns := uniq_le hs (pw_sortI ns) (hp.trans (perm_sortI ns).symm)
            subst en
            exact PostN.laid q1 g1 rs1 hp' ⟨_, upd_same, VRs.ints_map _⟩
        · rw [if_neg hl] at q1
          exact q1.elim⟩
/-- by what it is -/
def nSort (f : Ev D) : Ev DO := fun e S => match f e S with
  | .ok d S1 => if (dcOf S1 d).isSome = true then nSortD f e S else if ((lsOf S1 d).bind intsL).isSome = true then nSortI f e S else nSortP f e S
  | _ => nSortI f e S
theorem nSort_is (f : Ev D) (e : En) (S : Sto) : nSort f e S = nSortD f e S ∨ nSort f e S = nSortI f e S ∨ nSort f e S = nSortP f e S := by
  unfold nSort
  split
  · split
    · exact .inl rfl
    · split
      · exact .inr (.inl rfl)
      · exact .inr (.inr rfl)
  · exact .inr (.inl rfl)
theorem qn_sort (hc : X.calm = true) (hg : Gl X "sorted") (hm : X.mg "sorted" = none) (ha : QE cl W X a f)
    (h0 : starEach [a] X.env = (false, eval a X.env) :: starEach [] X.env := by rfl) (hpl : (backTo pos (starEach [] X.env)).any (·.1) = false := by rfl) :
    QN cl W X (.Call (.Name "sorted" p) [a] [] pos) (nSort f) := ⟨fun pins s σ H Q I h => by
  obtain ⟨am, e, S, rs, re, q0⟩ := h
  rcases nSort_is f e S with q | q | q
  · exact (qn_sortD hc hg hm ha h0 hpl).run pins s σ H Q I ⟨am, e, S, rs, re, by rw [← q]; exact q0⟩
  · exact (qn_sortI hg hm ha h0 hpl).run pins s σ H Q I ⟨am, e, S, rs, re, by rw [← q]; exact q0⟩
  · exact (qn_sortP hg hm ha h0 hpl).run pins s σ H Q I ⟨am, e, S, rs, re, by rw [← q]; exact q0⟩⟩
end
section
variable {f g h : Ev D} {e : En} {S : Sto}
@[simp] theorem ap_Get : eGet f g h e S = (f e S).bind fun o S => if (dcOf S o).isSome = true then (g e S).bind fun i S => (h e S).bind fun z S => getD2 o i z S else .bad := id rfl
theorem getD2_ref {k : Nat} {kvs : List (Key × D)} {i : Int} {z : D} (h : S[k]? = some (.dct kvs)) : getD2 (.ref k) (.int i) z S = .ok ((getK kvs (.inl i)).getD z) S := by
  simp [getD2, dcOf, h, keyOf]
theorem nSort_dct {d : D} {kvs : List (Key × D)} {ns : List Int} (hf : f e S = .ok d S) (h1 : dcOf S d = some kvs) (h2 : keysI kvs = some ns) (h3 : ns.length < 64) : nSort f e S = .ok (.lst ((sortI ns).map D.int)) S := by
  unfold nSort nSortD
  rw [hf]
  simp only [h1, Option.isSome_some, if_true, Res.bind_ok, Option.bind_some, h2]
  rw [if_pos h3]
theorem nSort_ints {d : D} {ns : List Int} (hf : f e S = .ok d S) (h0 : dcOf S d = none) (h1 : lsOf S d = some (ns.map D.int)) : nSort f e S = .ok (.lst ((sortI ns).map D.int)) S := by
  unfold nSort nSortI
  rw [hf]
  simp [h0, h1]
theorem prs_int_nil {ps : List (Int × Int)} (h : (intsL (ps.map rowD)).isSome = true) : ps = [] := by
  cases ps with
  | nil => rfl
  | cons p ps => exact absurd h (by simp [intsL, prD])
theorem nSort_prs {d : D} {ps : List (Int × Int)} (hf : f e S = .ok d S) (h0 : dcOf S d = none) (h1 : sqOf S d = some (ps.map rowD)) : nSort f e S = .ok (.lst ((sortP ps).map rowD)) S := by
  unfold nSort
  rw [hf]
  simp only [h0, Option.isSome_none, Bool.false_eq_true, if_false]
  have e1 : nSortP f e S = .ok (.lst ((sortP ps).map rowD)) S := by
    unfold nSortP
    rw [hf, Res.bind_ok, h1, Option.bind_some, prsL_map]
  by_cases hq : ((lsOf S d).bind intsL).isSome = true
  · rw [if_pos hq]
    cases h2 : lsOf S d with
    | none => rw [h2] at hq; cases hq
    | some xs =>
      have h3 : xs = ps.map rowD := by
        have : sqOf S d = some xs := by
          cases d with
          | tup _ => cases h2
          | _ => exact h2
        rw [h1] at this
        exact (Option.some.inj this).symm
      subst h3
      rw [h2, Option.bind_some] at hq
      have := prs_int_nil hq
      subst this
      unfold nSortI
      rw [hf, Res.bind_ok, h2]
      rfl
  · rw [if_neg hq, e1]
end

def putAll : List Nat → List D → En → Option En
  | [], [], e => some e
  | i :: is, d :: ds, e => putAll is ds (e.set i (some d))
  | _, _, _ => none
def sPar (is : List Nat) (fs : List (Ev D)) : Stm := fun e S => (eArgs fs e S).stm e fun ds S => match putAll is ds e with
  | some e' => .next e' S
  | none => .bad
section
variable {cl : Str → Addr} {W : WX} {X : Cx} {a b c : Expr} {f g h : Ev D} {x y z : Str} {px py pz pt pt2 pos : Pos} {kt k2 : Nat}
theorem qs_par {i j : Nat} (hc : X.calm = true) (hN : X.N.Nodup) (hi : X.N[i]? = some x) (hj : X.N[j]? = some y) (hij : i ≠ j) (hx : X.env.scope.names.lookup x = some .local) (hy : X.env.scope.names.lookup y = some .local) (ha : QA cl W X [a, b] (eArgs [f, g]))
    (hw : swappedStores [.Tuple [.Name x px, .Name y py] kt pt] (.Tuple [a, b] k2 pt2) X.env = pure (some [x, y]))
    (hs : swapsWithSole [.Tuple [.Name x px, .Name y py] kt pt] (.Tuple [a, b] k2 pt2) pos.line X.env = pure false := by rfl) :
    QS cl W X (.Assign [.Tuple [.Name x px, .Name y py] kt pt] (.Tuple [a, b] k2 pt2) pos) (sPar [i, j] [f, g]) :=
  (ps_par hc hN hi hj hij hx hy ha hw hs).imp fun D σ H ⟨am, e, S, rs, re, p⟩ =>
    ⟨am, e, S, rs, re, (PostS.step re p).imp fun vs H1 ⟨am1, S1, ds, ee, g1, rs1, rvs, p1⟩ => by
      have hl := eArgs_len ee
      match ds, hl, rvs with
      | [d1, d2], _, .cons (v := v) r1 (.cons (v := w) r2 .nil) => exact ⟨v, w, rfl, p1 am1 _ H1 .refl rs1 (((re.mono g1).set i r1).set j r2)⟩⟩
theorem qs_par3 {i j l : Nat} (hc : X.calm = true) (hN : X.N.Nodup) (hi : X.N[i]? = some x) (hj : X.N[j]? = some y) (hl : X.N[l]? = some z) (hij : i ≠ j) (hil : i ≠ l) (hjl : j ≠ l) (hx : X.env.scope.names.lookup x = some .local) (hy : X.env.scope.names.lookup y = some .local) (hz : X.env.scope.names.lookup z = some .local) (ha : QA cl W X [a, b, c] (eArgs [f, g, h]))
    (hw : swappedStores [.Tuple [.Name x px, .Name y py, .Name z pz] kt pt] (.Tuple [a, b, c] k2 pt2) X.env = pure (some [x, y, z]))
    (hs : swapsWithSole [.Tuple [.Name x px, .Name y py, .Name z pz] kt pt] (.Tuple [a, b, c] k2 pt2) pos.line X.env = pure false := by rfl) :
    QS cl W X (.Assign [.Tuple [.Name x px, .Name y py, .Name z pz] kt pt] (.Tuple [a, b, c] k2 pt2) pos) (sPar [i, j, l] [f, g, h]) :=
  (ps_par3 hc hN hi hj hl hij hil hjl hx hy hz ha hw hs).imp fun D σ H ⟨am, e, S, rs, re, p⟩ =>
    ⟨am, e, S, rs, re, (PostS.step re p).imp fun vs H1 ⟨am1, S1, ds, ee, g1, rs1, rvs, p1⟩ => by
      have hl := eArgs_len ee
      match ds, hl, rvs with
      | [d1, d2, d3], _, .cons (v := u) r0 (.cons (v := v) r1 (.cons (v := w) r2 .nil)) => exact ⟨u, v, w, rfl, p1 am1 _ H1 .refl rs1 ((((re.mono g1).set i r0).set j r1).set l r2)⟩⟩
@[simp] theorem ap_Par {is : List Nat} {fs : List (Ev D)} {e : En} {S : Sto} : sPar is fs e S = (eArgs fs e S).stm e fun ds S => match putAll is ds e with
  | some e' => .next e' S
  | none => .bad := id rfl
@[simp] theorem putAll_nil {e : En} : putAll [] [] e = some e := id rfl
@[simp] theorem putAll_cons {i : Nat} {is : List Nat} {d : D} {ds : List D} {e : En} : putAll (i :: is) (d :: ds) e = putAll is ds (e.set i (some d)) := id rfl
end
end Pu
set_option Elab.async false
set_option linter.all false
set_option maxRecDepth 100000
namespace Pu
open PySem PySem.Spec PyProof.Rows L2
theorem FitMul.ok {i j : Int} (h : FitMul i j) : IntMulOk i j := by
  rcases h with h | h | h
  · exact CMul.ok (.inl h)
  · exact CMul.ok (.inr h)
  · exact CMulX.ok h
theorem iop_mulF {X : Cx} : OpR X (inplaceOp .Mult) (rI FitMul fun i j => .int (i * j)) := opI fun _ _ _ _ _ _ _ hc q => imul_int q (FitMul.ok hc)
section
variable {cl : Str → Addr} {W : WX} {X : Cx} {a : Expr} {f : Ev D} {pos : Pos} {x : Str}
theorem qs_augMul {i : Nat} {pos' : Pos} (hN : X.N.Nodup) (hi : X.N[i]? = some x) (hx : Loc X.env.scope x) (he : QE cl W X a f) (hf : X.fn x = true ∨ X.env.scope.names.lookup x = some .local := by first | exact .inl rfl | exact .inr rfl | assumption) :
    QS cl W X (.AugAssign (.Name x pos') .Mult a pos) (sAug (intD FitMul fun i j => .int (i * j)) i f) :=
  qs_aug iop_mulF (ok_intD (gv := fun i j => .int (i * j)) (fun _ _ _ _ => .int _) fun i j H Q hc q => ⟨i, j, rfl, rfl, hc, q⟩) hN hi hx he hf
theorem qe_gInt {i : Int} (hg : Gl X x) (hm : ∃ t, X.mg x = some (.int i t)) (hd : (x == ("__debug__" : Str)) = false := by decide) : QE cl W X (.Name x pos) (eC (.int i)) := by
  obtain ⟨t, e⟩ := hm
  exact qe_glob (v := .int i) hg e ⟨t, rfl⟩ (fun _ _ => .int i) hd
theorem qe_gStr {i : Str} (hg : Gl X x) (hm : ∃ t, X.mg x = some (.str i t)) (hd : (x == ("__debug__" : Str)) = false := by decide) : QE cl W X (.Name x pos) (eC (.str i)) := by
  obtain ⟨t, e⟩ := hm
  exact qe_glob (v := .str i) hg e ⟨t, rfl⟩ (fun _ _ => .str i) hd
/-- a tuple of ints that stands in the module -/
def GT (K : PySem.W.Frag) (mg : Str → Option Value) (x : Str) (ns : List Int) : Prop := ∃ (p : Addr) (o : Obj) (its : Array Value) (n : Nat), mg x = some (.ref p) ∧ K.lookup p = some o ∧ o.cls = .type "tuple" ∧ o.dict = none ∧ o.data = .seq its n ∧ its.size ≤ sizeLine ∧ Vals (ns.map V.int) its.toList
theorem qe_gTup {ns : List Int} (hg : Gl X x) (hm : GT X.K X.mg x ns) (hd : (x == ("__debug__" : Str)) = false := by decide) : QE cl W X (.Name x pos) (eC (.tup (ns.map D.int))) := by
  obtain ⟨p, o, its, n, e, hk, hc, hd0, hs, hz, hv⟩ := hm
  exact qe_glob (v := .ref p) hg e rfl (fun am H => .tup (.inr ⟨o, its, n, hk, hc, hd0, hs, hz, hv⟩) (VRs.ints_map ns)) hd
end
end Pu
set_option Elab.async false
set_option linter.all false
set_option maxRecDepth 100000
namespace Pu
open PySem PySem.Spec PyProof.Rows L2
def enumL (xs : List D) : List D := (List.range xs.length).map fun i => .tpi [.int (i : Nat), xs[i]?.getD .non]
def srcEn (ds : List D) (S : Sto) : Res Src := match ds with
  | [.lst xs] => .ok (.tmp (enumL xs)) S
  | [.fls xs] => .ok (.tmp (enumL xs)) S
  | _ => .bad
def iEn (f : Ev D) : Ev Src := fun e S => (eArgs [f] e S).bind srcEn
theorem enumL_get {xs : List D} {i : Nat} {d : D} (h : (enumL xs)[i]? = some d) : ∃ x, xs[i]? = some x ∧ d = .tpi [.int (i : Nat), x] := by
  unfold enumL at h
  have hi : i < xs.length := by
    have := (List.getElem?_eq_some_iff.mp h).1
    simpa using this
  rw [List.getElem?_map, List.getElem?_range hi] at h
  refine ⟨xs[i], List.getElem?_eq_getElem hi, ?_⟩
  have := Option.some.inj h
  rw [← this]
  simp only [List.getElem?_eq_getElem hi, Option.getD_some]
section
variable {cl : Str → Addr} {W : WX} {X : Cx} {a b : Expr} {f g : Ev D} {p pos tpos : Pos} {elts : List Expr} {kk : Nat}
theorem enum_ok {K : PySem.W.Frag} {am : AM} {H : Hp} {l : Addr} {xs : List D} (h : ∀ (am' : AM) (H' : Hp) (S' : Sto), Grow am am' H H' → RelS K cl am' S' H' → ∃ vs, SqL K H' l vs ∧ VRs K am' H' xs vs) : SrcJ K cl (.tmp (enumL xs)) am H (Ite K l) := by
  intro am' H' S' g rs _
  obtain ⟨vs, h1, h2⟩ := h am' H' S' g rs
  refine ⟨fun i d hd => ?_, fun i hi => ⟨vs, h1, by rw [← h2.length]; simpa [enumL] using hi⟩⟩
  obtain ⟨x, hx, rfl⟩ := enumL_get hd
  obtain ⟨v, hv, rv⟩ := h2.get hx
  refine ⟨⟨vs, v, h1, hv⟩, fun y H2 hy => ?_⟩
  obtain ⟨T, z, rfl, hT, rfl, hz⟩ := hy
  have e : z = v := Option.some.inj ((hz vs h1).symm.trans hv)
  subst e
  exact ⟨am', Grow.upd hT, rs.upd hT, VR.tpiNew rs (.cons (.int _) (.cons rv .nil)) hT⟩
theorem qi_enum (hg : Gl X "enumerate") (hm : X.mg "enumerate" = none) (ha : QE cl W X a f) (hs : starEach [a] X.env = [(false, eval a X.env)] := by rfl) (h0 : starEach [a] X.env = (false, eval a X.env) :: starEach [] X.env := by rfl) :
    QI cl W X (.Tuple elts kk tpos) (.Call (.Name "enumerate" p) [a] [] pos) (iEn f) :=
  (pi_enum hg hm (qa_cons ha qa_nil h0) hs).imp fun σ H R ⟨am, e, S, rs, re, q0⟩ =>
    ⟨am, e, S, rs, re, (Post.step q0).imp fun xs H1 ⟨am1, S1, ds, _, g1, rs1, rvs, p1⟩ => by
      cases rvs with
      | nil => exact p1.elim
      | cons r1 r2 =>
        cases r2 with
        | cons _ _ => cases r1 <;> exact p1.elim
        | nil =>
          cases r1 with
          | @lst l vs ys h1 h2 h3 => exact ⟨l, vs, rfl, .inl (.inl h1), p1 am1 _ H1 .refl rs1 (enum_ok fun am' H' S' g rs => ⟨vs, .inl (.inl (g.ext.keep _ _ h1 h2).1), h3.mono g⟩)⟩
          | @fls l vs ys h1 h3 => exact ⟨l, vs, rfl, h1.seq, p1 am1 _ H1 .refl rs1 (enum_ok fun am' H' S' g rs => ⟨vs, (h1.ext g.ext).seq, h3.mono g⟩)⟩
          | _ => exact p1.elim⟩

def zipL (xs ys : List D) : List D := List.zipWith (fun x y => .tpi [x, y]) xs ys
def stL : D → Option (List D)
  | .lst xs => some xs
  | .fls xs => some xs
  | _ => none
def srcZp (ds : List D) (S : Sto) : Res Src := match ds with
  | [.tup xs, .tup ys] => .ok (.tmp (zipL xs ys)) S
  | [x, y] => match stL x, stL y with
    | some xs, some ys => .ok (.tmp (zipL xs ys)) S
    | _, _ => .bad
  | _ => .bad
def iZp (f g : Ev D) : Ev Src := fun e S => (eArgs [f, g] e S).bind srcZp
theorem zipL_get {xs ys : List D} {i : Nat} {d : D} (h : (zipL xs ys)[i]? = some d) : ∃ x y, xs[i]? = some x ∧ ys[i]? = some y ∧ d = .tpi [x, y] := by
  unfold zipL at h
  rw [List.getElem?_zipWith] at h
  cases e1 : xs[i]? with
  | none => rw [e1] at h; cases h
  | some x =>
    cases e2 : ys[i]? with
    | none => rw [e1, e2] at h; cases h
    | some y => rw [e1, e2] at h; cases h; exact ⟨x, y, rfl, rfl, rfl⟩
theorem zipT_ok {K : PySem.W.Frag} {am : AM} {H : Hp} {l m : Addr} {xs ys : List D} (h : ∀ (am' : AM) (H' : Hp) (S' : Sto), Grow am am' H H' → RelS K cl am' S' H' → ∃ vs us, SqT K H' l vs ∧ SqT K H' m us ∧ VRs K am' H' xs vs ∧ VRs K am' H' ys us) : SrcJ K cl (.tmp (zipL xs ys)) am H (RZ.ItzT K l m) := by
  intro am' H' S' g rs _
  obtain ⟨vs, us, h1, h2, h3, h4⟩ := h am' H' S' g rs
  refine ⟨fun i d hd => ?_, fun i hi => ⟨vs, us, h1, h2, ?_⟩⟩
  · obtain ⟨x, y, hx, hy, rfl⟩ := zipL_get hd
    obtain ⟨v, hv, rv⟩ := h3.get hx
    obtain ⟨u, hu, ru⟩ := h4.get hy
    refine ⟨⟨vs, us, v, u, h1, h2, hv, hu⟩, fun z H2 hz => ?_⟩
    obtain ⟨T, v', u', rfl, hT, rfl, k1, k2⟩ := hz
    have e : v' = v := Option.some.inj ((k1 vs h1).symm.trans hv)
    have e' : u' = u := Option.some.inj ((k2 us h2).symm.trans hu)
    subst e e'
    exact ⟨am', Grow.upd hT, rs.upd hT, VR.tpiNew rs (.cons rv (.cons ru .nil)) hT⟩
  · rw [← h3.length, ← h4.length]
    simp only [Src.items_tmp, zipL, List.length_zipWith] at hi
    omega
theorem zipL_ok {K : PySem.W.Frag} {am : AM} {H : Hp} {l m : Addr} {xs ys : List D} (h : ∀ (am' : AM) (H' : Hp) (S' : Sto), Grow am am' H H' → RelS K cl am' S' H' → ∃ vs us, SqL K H' l vs ∧ SqL K H' m us ∧ VRs K am' H' xs vs ∧ VRs K am' H' ys us) : SrcJ K cl (.tmp (zipL xs ys)) am H (Itz K l m) := by
  intro am' H' S' g rs _
  obtain ⟨vs, us, h1, h2, h3, h4⟩ := h am' H' S' g rs
  refine ⟨fun i d hd => ?_, fun i hi => ⟨vs, us, h1, h2, ?_⟩⟩
  · obtain ⟨x, y, hx, hy, rfl⟩ := zipL_get hd
    obtain ⟨v, hv, rv⟩ := h3.get hx
    obtain ⟨u, hu, ru⟩ := h4.get hy
    refine ⟨⟨vs, us, v, u, h1, h2, hv, hu⟩, fun z H2 hz => ?_⟩
    obtain ⟨T, v', u', rfl, hT, rfl, k1, k2⟩ := hz
    have e : v' = v := Option.some.inj ((k1 vs h1).symm.trans hv)
    have e' : u' = u := Option.some.inj ((k2 us h2).symm.trans hu)
    subst e e'
    exact ⟨am', Grow.upd hT, rs.upd hT, VR.tpiNew rs (.cons rv (.cons ru .nil)) hT⟩
  · rw [← h3.length, ← h4.length]
    simp only [Src.items_tmp, zipL, List.length_zipWith] at hi
    omega
/-- a list by its data stands still -/
theorem stL_ok {K : PySem.W.Frag} {am : AM} {H : Hp} {d : D} {v : V} {xs : List D} (r : VR K am H d v) (e : stL d = some xs) : ∃ l vs, v = .ref l ∧ SqL K H l vs ∧ ∀ (am' : AM) (H' : Hp), Grow am am' H H' → SqL K H' l vs ∧ VRs K am' H' xs vs := by
  cases r with
  | @lst l vs ys h1 h2 h3 => cases e; exact ⟨l, vs, rfl, .inl (.inl h1), fun am' H' g => ⟨.inl (.inl (g.ext.keep _ _ h1 h2).1), h3.mono g⟩⟩
  | @fls l vs ys h1 h3 => cases e; exact ⟨l, vs, rfl, h1.seq, fun am' H' g => ⟨(h1.ext g.ext).seq, h3.mono g⟩⟩
  | _ => cases e
theorem qi_zip (hg : Gl X "zip") (hm : X.mg "zip" = none) (ha : QE cl W X a f) (hb : QE cl W X b g) (hs : starEach [a, b] X.env = (false, eval a X.env) :: starEach [b] X.env := by rfl) (h0 : starEach [b] X.env = (false, eval b X.env) :: starEach [] X.env := by rfl) (hpl : (backTo pos (starEach [b] X.env)).any (·.1) = false := by rfl) :
    QI cl W X (.Tuple elts kk tpos) (.Call (.Name "zip" p) [a, b] [] pos) (iZp f g) :=
  (RZ.pi_zipA hg hm (qa_cons ha (qa_cons hb qa_nil h0) hs) hs hpl).imp fun σ H R ⟨am, e, S, rs, re, q0⟩ =>
    ⟨am, e, S, rs, re, (Post.step q0).imp fun xs H1 ⟨am1, S1, ds, ee, g1, rs1, rvs, p1⟩ => by
      have hl := eArgs_len ee
      match ds, hl, rvs with
      | [d1, d2], _, .cons (v := v1) r1 (.cons (v := v2) r2 .nil) =>
        have two : ∀ {R : It → Hp → Prop}, Post X.K cl W σ (fun am H (s : Src) (J : It) => SrcJ X.K cl s am H J) am1 H1 (match stL d1, stL d2 with
            | some xs, some ys => .ok (.tmp (zipL xs ys)) S1
            | _, _ => .bad) R → ∃ l m vs us, [v1, v2] = [V.ref l, V.ref m] ∧ SqL X.K H1 l vs ∧ SqL X.K H1 m us ∧ R (Itz X.K l m) H1 := fun q => by
          cases e1 : stL d1 with
          | none => rw [e1] at q; exact q.elim
          | some xs =>
            cases e2 : stL d2 with
            | none => rw [e1, e2] at q; exact q.elim
            | some ys =>
              rw [e1, e2] at q
              obtain ⟨l, vs, rfl, a1, a2⟩ := stL_ok r1 e1
              obtain ⟨m, us, rfl, b1, b2⟩ := stL_ok r2 e2
              exact ⟨l, m, vs, us, rfl, a1, b1, q am1 _ H1 .refl rs1 (zipL_ok fun am' H' S' g rs => ⟨vs, us, (a2 am' H' g).1, (b2 am' H' g).1, (a2 am' H' g).2, (b2 am' H' g).2⟩)⟩
        have fin2 : ∀ {R : It → Hp → Prop}, (∃ l m vs us, [v1, v2] = [V.ref l, V.ref m] ∧ SqL X.K H1 l vs ∧ SqL X.K H1 m us ∧ R (Itz X.K l m) H1) → ∃ l m vs us, [v1, v2] = [V.ref l, V.ref m] ∧ ((SqL X.K H1 l vs ∧ SqL X.K H1 m us ∧ R (Itz X.K l m) H1) ∨ (SqT X.K H1 l vs ∧ SqT X.K H1 m us ∧ R (RZ.ItzT X.K l m) H1)) := fun ⟨l, m, vs, us, e, a1, a2, a3⟩ => ⟨l, m, vs, us, e, .inl ⟨a1, a2, a3⟩⟩
        cases r1 with
        | @tup l vs xs t1 s1 =>
          cases r2 with
          | @tup m us ys t2 s2 =>
            exact ⟨l, m, vs, us, rfl, .inr ⟨t1.seq, t2.seq, p1 am1 _ H1 .refl rs1 (zipT_ok fun am' H' S' g rs => ⟨vs, us, (t1.ext g.ext).seq, (t2.ext g.ext).seq, s1.mono g, s2.mono g⟩)⟩⟩
          | _ => exact fin2 (two p1)
        | _ => exact fin2 (two p1)⟩
end
end Pu
set_option Elab.async false
set_option linter.all false
set_option maxRecDepth 100000
set_option maxHeartbeats 4000000
namespace Pu
open PySem PySem.Spec PyProof.Rows L2
theorem times_one (l : Addr) (xs : Array Value) (n : Nat) (dd : Option Addr) (sl : Array (Option Value)) (u : Tok) :
    Meets (Builtin.«tuple.__mul__» ⟨[.ref l, .int 1 u], []⟩) (fun _ R s => s.heap.get? l = some ⟨.type "tuple", dd, .seq xs n, sl⟩ ∧ R (.ok (.ret (Value.ref l))) s) :=
  .of_wp fun prog w A R s h => by
    obtain ⟨hp, g, d, tk, os⟩ := s
    obtain ⟨hl, h⟩ := h
    have f1 := AutoSeq1.idx_int
    have hT : (Shared.mk hp g d tk os).TypeIs (.ref l) "tuple" := ⟨_, hl, rfl⟩
    wp_walk using wpAny_loadPart' hl, wpAny_typeOf hT
    all_goals exact ⟨_, rfl, h⟩
theorem times_none (l : Addr) (xs : Array Value) (n : Nat) (dd : Option Addr) (sl : Array (Option Value)) (u : Tok) (hx : xs.isEmpty = false) :
    Meets (Builtin.«tuple.__mul__» ⟨[.ref l, .int 0 u], []⟩) (fun _ R s => s.heap.get? l = some ⟨.type "tuple", dd, .seq xs n, sl⟩ ∧ R (.ok (.ret (Value.ref s.heap.objs.size))) { s with heap := s.heap.push { cls := Value.type "tuple", data := .seq #[] } }) :=
  .of_wp fun prog w A R s h => by
    obtain ⟨hp, g, d, tk, os⟩ := s
    obtain ⟨hl, h⟩ := h
    have f1 := AutoSeq1.idx_int
    have hT : (Shared.mk hp g d tk os).TypeIs (.ref l) "tuple" := ⟨_, hl, rfl⟩
    wp_walk using wpAny_loadPart' hl, wpAny_typeOf hT
    all_goals exact ⟨_, rfl, h⟩
section
variable {X : Cx}
def rT01 (K : PySem.W.Frag) : R2 := fun x y H Q => ∃ l k zs, x = .ref l ∧ y = .int k ∧ SqT K H l zs ∧ zs ≠ [] ∧ ((k = 1 ∧ Q (.ref l) H) ∨ (k = 0 ∧ NT [] H Q))
theorem op_T01 : OpR X (binaryOp .Mult) (rT01 X.K) := by
  intro pins s σ H x y v u Q I rx ry h
  obtain ⟨l, k, zs, rfl, rfl, hz, hne, h⟩ := h
  cases rx
  obtain ⟨t, rfl⟩ := ry
  obtain ⟨its, r, ⟨⟨cs, da, dt, st⟩, ho, hc, n, hd⟩, hs⟩ := I.tuple hz
  simp only at hc hd
  subst hc hd
  have hi : its.toArray.isEmpty = false := by
    cases its with
    | nil =>
      have e : zs.length = 0 := by rw [r.length]; rfl
      exact absurd (List.eq_nil_of_length_eq_zero e) hne
    | cons a b => rfl
  rcases h with ⟨rfl, q⟩ | ⟨rfl, q⟩
  · refine wpAny_binaryOp_repeat_ref (T := "tuple") (U := "int") (by decide) ⟨_, ho, rfl⟩ (fun z => typeIs_int z 1 t) noFill_tuple_mul F.fills_int_mul F.slot_int_rmul repeat_tuple F.slot_int_index.lookup ?_
    refine call_meets F.slot_int_rmul (typeIs_int s 1 t) F.entry_int_rmul (F.args_int_rmul_2 _ _) (int_rmul_tuple 1 t l its.toArray n da st) ⟨ho, rfl, ⟨_, ho, rfl⟩, ?_⟩
    exact call_meets F.slot_tuple_mul ⟨_, ho, rfl⟩ F.entry_tuple_mul (F.args_tuple_mul_2 _ _) (times_one l its.toArray n da st t) ⟨ho, ⟨.ref l, H, I, rfl, q⟩⟩
  · refine wpAny_binaryOp_repeat_ref (T := "tuple") (U := "int") (by decide) ⟨_, ho, rfl⟩ (fun z => typeIs_int z 0 t) noFill_tuple_mul F.fills_int_mul F.slot_int_rmul repeat_tuple F.slot_int_index.lookup ?_
    refine call_meets F.slot_int_rmul (typeIs_int s 0 t) F.entry_int_rmul (F.args_int_rmul_2 _ _) (int_rmul_tuple 0 t l its.toArray n da st) ⟨ho, rfl, ⟨_, ho, rfl⟩, ?_⟩
    refine call_meets F.slot_tuple_mul ⟨_, ho, rfl⟩ F.entry_tuple_mul (F.args_tuple_mul_2 _ _) (times_none l its.toArray n da st t hi) ⟨ho, ?_⟩
    exact NT.lay (us := []) (tk := s.toks) I .nil (Nat.zero_le _) q
end
/-- tuple * int -/
def mulTD (d e : D) (S : Sto) : Res D := match d, e with
  | .tup xs, .int k => if xs ≠ [] ∧ xs.length ≤ 1000 ∧ 0 ≤ k ∧ k ≤ 1000 then .ok (.tup (List.replicate k.toNat xs).flatten) S else .bad
  | _, _ => .bad
section
variable {cl : Str → Addr} {W : WX} {X : Cx} {a b : Expr} {f g : Ev D} {pos : Pos}
theorem ok_mulT : Ok2 X.K cl (fun x y H Q => rT01 X.K x y H Q ∨ rRepF X.K x y H Q) mulTD := by
  intro W σ am S H d e v u Q rs h1 h2 p
  cases h2 with
  | int k =>
    cases h1 with
    | @tup l vs ds hs hv =>
      simp only [mulTD] at p
      by_cases hz : ds ≠ [] ∧ ds.length ≤ 1000 ∧ 0 ≤ k ∧ k ≤ 1000
      · rw [if_pos hz] at p
        have hne : vs ≠ [] := fun e => hz.1 (hv.nil_iff.mp e)
        have hl : vs.length ≤ 1000 := by rw [← hv.length]; exact hz.2.1
        by_cases e1 : k = 1
        · subst e1
          refine .inl ⟨l, 1, vs, rfl, rfl, hs.seq, hne, .inl ⟨rfl, p am _ H .refl rs ?_⟩⟩
          have : (List.replicate (1 : Int).toNat ds).flatten = ds := by simp
          rw [this]
          exact .tup hs hv
        · by_cases e0 : k = 0
          · subst e0
            refine .inl ⟨l, 0, vs, rfl, rfl, hs.seq, hne, .inr ⟨rfl, fun q ob hq hd => p am _ _ (Grow.upd hq) (rs.upd hq) (VR.tupNew rs .nil hq hd)⟩⟩
          · exact .inr ⟨l, k, vs, rfl, rfl, hs.seq, hne, by omega, hz.2.2.2, hl, fun q ob hq hd => p am _ _ (Grow.upd hq) (rs.upd hq) (VR.tupNew rs (hv.replicate _) hq hd)⟩
      · rw [if_neg hz] at p
        exact p.elim
    | _ => exact p.elim
  | _ => cases h1 <;> exact p.elim
theorem qe_mulT (ha : QE cl W X a f) (hb : QE cl W X b g) : QE cl W X (.BinOp a .Mult b pos) (e2 mulTD f g) := qe_bin (OpR.or op_T01 op_repF) ok_mulT ha hb
end
theorem mulT_one {x : D} {n : Nat} {S : Sto} (h : n ≤ 1000) : mulTD (.tup [x]) (.int (n : Nat)) S = .ok (.tup (List.replicate n x)) S := by
  simp only [mulTD]
  rw [if_pos ⟨by simp, by simp, by omega, by omega⟩]
  simp
end Pu
set_option Elab.async false
set_option linter.all false
set_option maxRecDepth 100000
namespace Pu
open PySem PySem.Spec PyProof.Rows L2
def eBits (f : Ev D) : Ev D := fun e S => (f e S).bind fun d S => match d with
  | .int i => .ok (.int (Builtin.Int.intBits i : Nat)) S
  | _ => .bad
instance (a b : Int) : Decidable (RgOk a b) := by unfold RgOk; infer_instance
def rgN (i j : Int) (S : Sto) : Res DO := if RgOk i j then .ok (.lst (rngD i j)) S else .bad
def nRg1 (f : Ev D) : Ev DO := fun e S => (f e S).bind fun d S => match d with
  | .int i => rgN 0 i S
  | _ => .bad
def nRg2 (f g : Ev D) : Ev DO := fun e S => (f e S).bind fun d S => (g e S).bind fun c S => match d, c with
  | .int i, .int j => rgN i j S
  | _, _ => .bad
theorem rg_vrs {K : PySem.W.Frag} {am : AM} {H : Hp} (i j : Int) : VRs K am H (rngD i j) (rgV i j) := by
  unfold rngD rgV
  generalize List.range (j - i).toNat = l
  induction l with
  | nil => exact .nil
  | cons a l ih => exact .cons (.int _) ih
theorem PostN.step2 {K : PySem.W.Frag} {cl : Str → Addr} {W : WX} {σ : L2.St} {am am1 : AM} {H H1 : Hp} {Q : VK} {α β : Type} {R : AM → Hp → α → β → Prop} {r : Res α} {k : α → Sto → Res DO} (g : Grow am am1 H H1) (p : PostN K cl W σ am H (r.bind k) Q) :
    Post K cl W σ R am1 H1 r (fun b H2 => ∃ am2 S2 a, r = .ok a S2 ∧ Grow am1 am2 H1 H2 ∧ RelS K cl am2 S2 H2 ∧ R am2 H2 a b ∧ PostN K cl W σ am H (k a S2) Q) := by
  cases r with
  | ok a S => exact fun am2 b H2 g2 rs rb => ⟨am2, S, a, rfl, g2, rs, rb, p⟩
  | exc c S => exact fun am2 H2 g2 rs => p am2 H2 (g.trans g2) rs
  | bad => exact p
section
variable {cl : Str → Addr} {W : WX} {X : Cx} {a b : Expr} {f g : Ev D} {p p2 apos pos pos2 : Pos}
theorem qe_bits (ha : QE cl W X a f) (hb : attributeBase a "bit_length" X.env (eval a X.env) = eval a X.env := by rfl) (hl : (apos.endLine == pos.line) = true := by rfl) : QE cl W X (.Call (.Attribute a "bit_length" apos) [] [] pos) (eBits f) :=
  (pe_bits ha hb hl).imp fun σ H Q ⟨am, e, S, rs, re, q0⟩ =>
    ⟨am, e, S, rs, re, (Post.step q0).imp fun x H1 ⟨am1, S1, d, _, g1, rs1, rv, p1⟩ => by
      cases rv with
      | int i => exact ⟨i, rfl, p1 am1 _ H1 .refl rs1 (.int _)⟩
      | _ => exact p1.elim⟩
theorem rg_ok {am : AM} {H : Hp} {S : Sto} {σ : L2.St} {i j : Int} {Q : VK} (rs : RelS X.K cl am S H) {am0 : AM} {H0 : Hp} (g : Grow am0 am H0 H) (p : PostN X.K cl W σ am0 H0 (rgN i j S) Q) : RgOk i j ∧ ∀ q, H q = none → Q (.ref q) (upd H q (.lst (rgV i j))) := by
  unfold rgN at p
  by_cases h : RgOk i j
  · rw [if_pos h] at p
    exact ⟨h, fun q hq => PostN.laid p g rs hq ⟨_, upd_same, rg_vrs i j⟩⟩
  · rw [if_neg h] at p
    exact p.elim
theorem qn_rg1 (hc : X.calm = true) (hg : Gl X "list") (hm : X.mg "list" = none) (hg2 : Gl X "range") (hm2 : X.mg "range" = none) (ha : QE cl W X a f)
    (na : starEach [a] X.env = (false, eval a X.env) :: starEach [] X.env := by rfl) (nb : starEach [.Call (.Name "range" p2) [a] [] pos2] X.env = (false, eval (.Call (.Name "range" p2) [a] [] pos2) X.env) :: starEach [] X.env := by rfl) :
    QN cl W X (.Call (.Name "list" p) [.Call (.Name "range" p2) [a] [] pos2] [] pos) (nRg1 f) :=
  (pe_listRg hc hg hm (prg_1 hg2 hm2 ha na) nb).imp fun σ H Q ⟨am, e, S, rs, re, q0⟩ =>
    ⟨am, e, S, rs, re, (PostN.step q0).imp fun x H1 ⟨am1, S1, d, _, g1, rs1, rv, p1⟩ => by
      cases rv with
      | int i => exact ⟨i, rfl, rg_ok rs1 g1 p1⟩
      | _ => exact p1.elim⟩
theorem qn_rg2 (hc : X.calm = true) (hg : Gl X "list") (hm : X.mg "list" = none) (hg2 : Gl X "range") (hm2 : X.mg "range" = none) (ha : QE cl W X a f) (hb : QE cl W X b g)
    (na : starEach [a, b] X.env = (false, eval a X.env) :: starEach [b] X.env := by rfl) (na2 : starEach [b] X.env = (false, eval b X.env) :: starEach [] X.env := by rfl) (hp : (backTo pos2 (starEach [b] X.env)).any (·.1) = false := by rfl) (nb : starEach [.Call (.Name "range" p2) [a, b] [] pos2] X.env = (false, eval (.Call (.Name "range" p2) [a, b] [] pos2) X.env) :: starEach [] X.env := by rfl) :
    QN cl W X (.Call (.Name "list" p) [.Call (.Name "range" p2) [a, b] [] pos2] [] pos) (nRg2 f g) :=
  (pe_listRg hc hg hm (prg_2 hg2 hm2 ha hb na na2 hp) nb).imp fun σ H Q ⟨am, e, S, rs, re, q0⟩ =>
    ⟨am, e, S, rs, re, (PostN.step (R := VR X.K) q0).imp fun x H1 ⟨am1, S1, d, e1, g1, rs1, rv, p1⟩ => by
      refine ⟨am1, e, S1, rs1, re.mono g1, (PostN.step2 (R := VR X.K) g1 p1).imp fun y H2 ⟨am2, S2, c, _, g2, rs2, rv2, p2⟩ => ?_⟩
      have rv' := rv.mono g2
      cases rv' with
      | int i =>
        cases rv2 with
        | int j => exact ⟨i, j, rfl, rfl, rg_ok rs2 (g1.trans g2) p2⟩
        | _ => exact p2.elim
      | _ => cases rv2 <;> exact p2.elim⟩
/-- a statement that is never reached -/
def sBad : Stm := fun _ _ => .bad
theorem qs_bad {st : Stmt} : QS cl W X st sBad := ⟨fun pins s σ H E I ⟨am, e, S, rs, re, p⟩ => p.elim⟩
end
@[simp] theorem ap_bits : eBits f e S = (f e S).bind fun d S => match d with
  | .int i => .ok (.int (Builtin.Int.intBits i : Nat)) S
  | _ => .bad := id rfl
theorem nRg1_ok {f : Ev D} {e : En} {S : Sto} {i : Int} (h : f e S = .ok (.int i) S) (h0 : -1000000 < i) (h1 : i < 1048576) : nRg1 f e S = .ok (.lst (rngD 0 i)) S := by
  unfold nRg1 rgN
  rw [h, Res.bind_ok]
  simp only
  rw [if_pos (by unfold RgOk; omega)]
theorem nRg2_ok {f g : Ev D} {e : En} {S : Sto} {i j : Int} (h : f e S = .ok (.int i) S) (h2 : g e S = .ok (.int j) S) (h0 : -1000000 < i) (h1 : i < 1048576) (h3 : -1000000 < j) (h4 : j < 1048576) : nRg2 f g e S = .ok (.lst (rngD i j)) S := by
  unfold nRg2 rgN
  rw [h, Res.bind_ok, h2, Res.bind_ok]
  simp only
  rw [if_pos (by unfold RgOk; omega)]
end Pu
set_option Elab.async false
set_option linter.all false
set_option maxRecDepth 100000
set_option maxHeartbeats 4000000
namespace Pu
open PySem PySem.Spec PyProof.Rows L2
abbrev enuO (z : Addr) : Obj := { cls := .type "enumerate", data := .fields #[.none, .bool false, .ref z, rawInt 0, .none, .none] }
theorem enum_new {v : Value} {o : Obj} {C : Heap → Prop} (B : Begins v o C) :
    Meets (Builtin.«enumerate.__new__» ⟨[.type "enumerate", v], []⟩) (fun _ R s => C s.heap ∧ R (.ok (.ret (.ref (s.heap.push o).objs.size))) { s with heap := (s.heap.push o).push (enuO s.heap.objs.size) }) :=
  .of_wp fun prog w A R s h => by
    obtain ⟨hp, gs, dr, tk, os⟩ := s
    obtain ⟨hC, h⟩ := h
    have hsub := sub_enumerate
    have it1 : ∀ {A' : Around} {E : Value → Shared → Prop} {Q : Value → Shared → Prop}, Q (.ref hp.objs.size) ⟨hp.push o, gs, dr, tk, os⟩ → wpAny (model prog w) A' (pyIter v) Q E ⟨hp, gs, dr, tk, os⟩ := fun q => B.iter prog w _ _ _ _ hC q
    wp_walk using it1
    refine wpAny_stack_any fun st => wpAny_pure ?_
    split
    · rename_i c _ _ _ _ _
      cases (c == Value.type "enumerate") <;> (wp_walk using it1; exact ⟨_, rfl, h⟩)
    · wp_walk using it1
      exact ⟨_, rfl, h⟩
section
variable {prog : Program} {w : World} {A : Around} {E : Value → Shared → Prop} {s : Shared}
theorem enum_call {v : Value} {o : Obj} {C : Heap → Prop} {Q : Value → Shared → Prop} (B : Begins v o C) (hC : C s.heap)
    (h : ∀ h', IsEnum h' (s.heap.objs.size + 1) s.heap.objs.size 0 .none → h'.get? s.heap.objs.size = some o → (∀ b u, s.heap.get? b = some u → h'.get? b = some u) → Q (.ref (s.heap.objs.size + 1)) { s with heap := h' }) :
    wpAny (model prog w) A (call (.type "enumerate") [v]) Q E s := by
  refine callType_new F.called_enumerate (by decide) (F.typeCall_enumerate_1 _) (F.newCall_enumerate_1 _) (fun u => F.args_object_init_2 u _) F.entry_enumerate_new (enum_new B) ⟨hC, ?_⟩
  have hz : (s.heap.push o).objs.size = s.heap.objs.size + 1 := Heap.size_push ..
  show _ ∧ _
  rw [hz]
  have en : IsEnum ((s.heap.push o).push (enuO s.heap.objs.size)) (s.heap.objs.size + 1) s.heap.objs.size 0 .none := by
    have q := Heap.get?_push_size (s.heap.push o) (o := enuO s.heap.objs.size) rfl
    rw [hz] at q
    exact q
  exact ⟨⟨_, en, rfl⟩, h _ en (Heap.get?_push_of_some _ (Heap.get?_push_size _ B.free)) fun b u q => Heap.get?_push_of_some _ (Heap.get?_push_of_some _ q)⟩
end
theorem enuT_end {prog : Program} {w : World} {A : Around} {E : Value → Shared → Prop} {s : Shared} {e it a : Addr} {i : Nat} {c : Int} {xs : Array Value} {old : Value} {Q : Option Value → Shared → Prop} (hh : A.in1.handled = none)
    (he : IsEnum s.heap e it c old) (hi : s.heap.IsTupleIter it a i) (ha : s.heap.IsTuple a xs) (hx : xs[i]? = none) (h : ∀ h', Heap.ExtBut it s.heap h' → Q none { s with heap := h' }) : wpAny (model prog w) A (pyNext (.ref e)) Q E s := by
  have ty : s.TypeIs (.ref e) "enumerate" := ⟨_, he, rfl⟩
  unfold pyNext
  refine wpAny_bind (wpAny_attempt ?_)
  refine wpAny_callSpecial?_slot (name := Str.ofString "__next__") ty F.slot_enumerate_next (wpAny_call_entry F.slot_enumerate_next ty F.entry_enumerate_next ?_ (F.args_enumerate_next_1 _))
  show wpAny _ _ (field (.ref e) 2 >>= _) _ _ _
  refine wpAny_bind (wpAny_field he rfl (x := .ref it) rfl (wpAny_bind ?_))
  refine wpAny_nextOf_tuple_end hh hi ha hx fun h' x q1 q2 => ?_
  obtain ⟨o, ho, hc⟩ := q2
  exact wpAny_bind (wpAny_isInstance (T := "StopIteration") (b := true) ⟨o, ho, hc⟩ isSubtype_stop (wpAny_pure (h _ q1)))
/-- the tuple at a as it stands at each turn, each item in a new pair -/
def IteT (K : PySem.W.Frag) (a : Addr) : It :=
  ⟨fun i H => ∃ (xs : List V) (x : V), SqT K H a xs ∧ xs[i]? = some x, fun i H v H' => ∃ T x, v = .ref T ∧ H T = none ∧ H' = upd H T (.tup [.int (i : Nat), x]) ∧ ∀ xs, SqT K H a xs → xs[i]? = some x, fun i H => ∃ xs : List V, SqT K H a xs ∧ xs.length ≤ i⟩
theorem turn_enuT {P : Program} {w : World} {K : PySem.W.Frag} {elts : List Expr} {kk : Nat} {tpos : Pos} (a e it : Addr) :
    Turn P w K (.Tuple elts kk tpos) (IteT K a) [e, it] e (fun i h => (∃ old, IsEnum h e it ((i : Nat) : Int) old) ∧ h.IsTupleIter it a i ∧ e ≠ it ∧ a ≠ it ∧ a ≠ e) where
  mem := by simp
  obj := fun i h st b hb => by
    obtain ⟨⟨old, he⟩, ⟨u, hu, _, hd⟩, _⟩ := st
    rcases (show b = e ∨ b = it by simpa using hb) with z | z
    · rw [z]
      exact ⟨_, he, fun v q => nomatch q⟩
    · rw [z]
      exact ⟨u, hu, fun v q => by rw [hd] at q; cases q⟩
  keep := fun i h h' st k => by
    obtain ⟨⟨old, he⟩, hi, hn⟩ := st
    exact ⟨⟨old, k e (by simp) _ he⟩, hi.at fun o q => k it (by simp) o q, hn⟩
  item := by
    intro X hP hw hK hc i pins s σ H E I hf st hg
    subst hP hw hK
    obtain ⟨⟨old, he⟩, hit, hne, ha1, ha2⟩ := st
    obtain ⟨xs, x, hq, hx⟩ := hg
    obtain ⟨its, rv, p, hz⟩ := I.tuple hq
    obtain ⟨u, hu, ru⟩ := rv.get hx
    have hel : e < s.heap.objs.size := Heap.lt_size he
    have hil : it < s.heap.objs.size := by
      obtain ⟨_, q, _⟩ := hit
      exact Heap.lt_size q
    have hlt : i < its.toArray.size := by
      have := (List.getElem?_eq_some_iff.mp hu).1
      simpa using this
    have D := Draws.tuple (prog := X.prog) (w := X.w) (A := X.A.in1) (show X.A.in1.handled = none from I.ok.hd hc) it a ha1 its.toArray
    refine wpAny_pyNext_enum_itemD D he ⟨hit, show s.heap.IsTuple a its.toArray from p⟩ hlt hne (by simp [hne, Ne.symm ha2]) fun y h' tk hy ho hst hT hsz hk => ?_
    have ey : y = u := by
      have h1 : its.toArray[i]? = some y := hy
      have h2 : its.toArray[i]? = some u := by simpa using hu
      rw [h1] at h2
      exact Option.some.inj h2
    subst ey
    refine ⟨_, rfl, wpAny_letOwnedTupleGo_enum (s := { s with heap := h', toks := tk + 1 }) ho fun h'' he' sb => ?_⟩
    have hT2 := (sb.2 _ (Nat.ne_of_gt hel)).trans hT
    have new : ObjOk X.prog X.w (upd H s.heap.objs.size (.tup [.int (i : Nat), x])) h'' s.heap.objs.size (.tup [.int (i : Nat), x]) :=
      ⟨by show 2 ≤ sizeLine; decide, [.int i tk, y], .cons ⟨_, rfl⟩ (.cons ru .nil), ⟨_, hT2, rfl, _, rfl⟩⟩
    have I1 : Inv X pins σ (upd H s.heap.objs.size (.tup [.int (i : Nat), x])) { s with heap := h'', toks := tk + 1 } :=
      I.turnedNew (ch := [e, it]) (fun b o hb q => (sb.2 b (fun z => hb (by simp [z]))).trans (hk b o (fun z => hb (by simp [z])) (fun z => hb (by simp [z])) q)) hf (Nat.le_refl _) new
    refine ⟨.ref s.heap.objs.size, _, I1, rfl, ⟨_, x, rfl, I.hok.fresh (Nat.le_refl _), rfl, fun ys hy => by rw [I.tuple_inj hy hq]; exact hx⟩, ⟨⟨y, ?_⟩, hst.1.at fun o q => (sb.2 it (Ne.symm hne)).trans q, hne, ha1, ha2⟩, fun b hb => ?_⟩
    · rw [show ((i + 1 : Nat) : Int) = (i : Int) + 1 by omega]
      exact he'
    · have hb' : b < s.heap.objs.size := by
        rcases (show b = e ∨ b = it by simpa using hb) with z | z
        · rw [z]; exact hel
        · rw [z]; exact hil
      rw [upd_ne (Nat.ne_of_lt hb')]
      exact (hf b hb).1
  done := by
    intro X hP hw hK hc i pins s σ H E I hf st hg
    subst hP hw hK
    obtain ⟨⟨old, he⟩, hit, hne, ha1, ha2⟩ := st
    obtain ⟨xs, hq, hx⟩ := hg
    obtain ⟨its, rv, p, hz⟩ := I.tuple hq
    obtain ⟨f0, f1, f2, f3, f4, f5⟩ := hf it (by simp)
    have hl := rv.length
    exact enuT_end (show X.A.in1.handled = none from I.ok.hd hc) he hit (show s.heap.IsTuple a its.toArray from p) (by simp; omega) fun h' eb => ⟨rfl, I.turned (t' := s.toks) (fun b o hb q => eb b o hb q) f0 f1 f3 f4 f5⟩
  self := fun A i s Q E st h => by
    obtain ⟨⟨_, he⟩, _⟩ := st
    exact wpAny_pyIter_enum he h
def iEnuT (K : PySem.W.Frag) (te : TE) : TI := fun σ H R => te σ H fun x H1 => ∃ a xs, x = .ref a ∧ ((SqL K H1 a xs ∧ R (Ite K a) H1) ∨ (SqT K H1 a xs ∧ R (IteT K a) H1))
theorem pi_enuA {X : Cx} {e : Expr} {te : TE} {p pos tpos : Pos} {elts : List Expr} {kk : Nat} (hg : Gl X "enumerate") (hm : X.mg "enumerate" = none) (he : PE X e te) (na : starEach [e] X.env = (false, eval e X.env) :: starEach [] X.env := by rfl) :
    PI X (.Tuple elts kk tpos) (.Call (.Name "enumerate" p) [e] [] pos) (iEnuT X.K te) := by
  refine ⟨fun pins s σ H R I h => ?_⟩
  refine Call_ (ld_blt I hg hm boot_enumerate (PyProof.Rows.callWith_type1 (one_arg he I h (fun v s1 x H1 I1 r1 q1 => ?_) na) na))
  obtain ⟨a, xs, rfl, q1⟩ := q1
  obtain rfl : v = .ref a := r1
  have fp : ∀ b, b ∈ [s1.heap.objs.size + 1, s1.heap.objs.size] → FpOk X pins H1 b := fun b hb => by
    have hle : s1.heap.objs.size ≤ b := by
      rcases (show b = s1.heap.objs.size + 1 ∨ b = s1.heap.objs.size by simpa using hb) with z | z
      · rw [z]; exact Nat.le_add_right _ _
      · rw [z]; exact Nat.le_refl _
    exact I1.fpOk hle (I1.hok.fresh hle)
  rcases q1 with ⟨hq, q⟩ | ⟨hq, q⟩
  · obtain ⟨its, rv, pl, hz⟩ := I1.list hq
    refine enum_call (begins_list a its.toArray) pl.isList fun h' en hi hk => wpAny_pyIter_enum en ?_
    have I2 : Inv X pins σ H1 { s1 with heap := h' } := I1.kept (t' := s1.toks) hk
    exact ⟨s1.heap.objs.size + 1, [s1.heap.objs.size + 1, s1.heap.objs.size], _, _, H1, rfl, I2, turn_enum a (s1.heap.objs.size + 1) s1.heap.objs.size, ⟨⟨.none, en⟩, ⟨_, hi, rfl, rfl⟩, Nat.succ_ne_self _⟩, fp, q⟩
  · obtain ⟨its, rv, pl, hz⟩ := I1.tuple hq
    have hla : a < s1.heap.objs.size := by
      obtain ⟨o, ho, _⟩ := pl
      exact Heap.lt_size ho
    refine enum_call (begins_tuple a its.toArray) (show s1.heap.IsTuple a its.toArray from pl) fun h' en hi hk => wpAny_pyIter_enum en ?_
    have I2 : Inv X pins σ H1 { s1 with heap := h' } := I1.kept (t' := s1.toks) hk
    exact ⟨s1.heap.objs.size + 1, [s1.heap.objs.size + 1, s1.heap.objs.size], _, _, H1, rfl, I2, turn_enuT a (s1.heap.objs.size + 1) s1.heap.objs.size, ⟨⟨.none, en⟩, ⟨_, hi, rfl, rfl⟩, Nat.succ_ne_self _, Nat.ne_of_lt hla, Nat.ne_of_lt (Nat.lt_succ_of_lt hla)⟩, fp, q⟩
/-- enumerate of data that stand still -/
def srcEA (d : D) (S : Sto) : Res Src := match d with
  | .lst xs => .ok (.tmp (enumL xs)) S
  | .fls xs => .ok (.tmp (enumL xs)) S
  | .tup xs => .ok (.tmp (enumL xs)) S
  | _ => .bad
def iEA (f : Ev D) : Ev Src := fun e S => (f e S).bind srcEA
section
variable {cl : Str → Addr} {W : WX} {X : Cx} {a b : Expr} {f g : Ev D} {p pos tpos : Pos} {elts : List Expr} {kk : Nat}
theorem enuT_ok {K : PySem.W.Frag} {am : AM} {H : Hp} {l : Addr} {xs : List D} (h : ∀ (am' : AM) (H' : Hp) (S' : Sto), Grow am am' H H' → RelS K cl am' S' H' → ∃ vs, SqT K H' l vs ∧ VRs K am' H' xs vs) : SrcJ K cl (.tmp (enumL xs)) am H (IteT K l) := by
  intro am' H' S' g rs _
  obtain ⟨vs, h1, h2⟩ := h am' H' S' g rs
  refine ⟨fun i d hd => ?_, fun i hi => ⟨vs, h1, by rw [← h2.length]; simpa [enumL] using hi⟩⟩
  obtain ⟨x, hx, rfl⟩ := enumL_get hd
  obtain ⟨v, hv, rv⟩ := h2.get hx
  refine ⟨⟨vs, v, h1, hv⟩, fun y H2 hy => ?_⟩
  obtain ⟨T, z, rfl, hT, rfl, hz⟩ := hy
  have e : z = v := Option.some.inj ((hz vs h1).symm.trans hv)
  subst e
  exact ⟨am', Grow.upd hT, rs.upd hT, VR.tpiNew rs (.cons (.int _) (.cons rv .nil)) hT⟩
theorem qi_enuA (hg : Gl X "enumerate") (hm : X.mg "enumerate" = none) (ha : QE cl W X a f) (h0 : starEach [a] X.env = (false, eval a X.env) :: starEach [] X.env := by rfl) :
    QI cl W X (.Tuple elts kk tpos) (.Call (.Name "enumerate" p) [a] [] pos) (iEA f) :=
  (pi_enuA hg hm ha h0).imp fun σ H R ⟨am, e, S, rs, re, q0⟩ =>
    ⟨am, e, S, rs, re, (Post.step q0).imp fun x H1 ⟨am1, S1, d, _, g1, rs1, rv, p1⟩ => by
      cases rv with
      | @lst l vs ys h1 h2 h3 => exact ⟨l, vs, rfl, .inl ⟨.inl (.inl h1), p1 am1 _ H1 .refl rs1 (enum_ok fun am' H' S' g rs => ⟨vs, .inl (.inl (g.ext.keep _ _ h1 h2).1), h3.mono g⟩)⟩⟩
      | @fls l vs ys h1 h3 => exact ⟨l, vs, rfl, .inl ⟨h1.seq, p1 am1 _ H1 .refl rs1 (enum_ok fun am' H' S' g rs => ⟨vs, (h1.ext g.ext).seq, h3.mono g⟩)⟩⟩
      | @tup l vs ys h1 h3 => exact ⟨l, vs, rfl, .inr ⟨h1.seq, p1 am1 _ H1 .refl rs1 (enuT_ok fun am' H' S' g rs => ⟨vs, (h1.ext g.ext).seq, h3.mono g⟩)⟩⟩
      | _ => exact p1.elim⟩
end
/-- xs.extend(ys), ys new -/
def extD (o : D) (ds : List D) (S : Sto) : Res D := match o, ds with
  | .ref k, [.lst ys] => match S[k]? with
    | some (.lst xs) => if xs.length + ys.length ≤ sizeLine then .ok .non (S.set k (.lst (xs ++ ys))) else .bad
    | _ => .bad
  | _, _ => .bad
section
variable {cl : Str → Addr} {W : WX} {X : Cx} {a o : Expr} {f g : Ev D} {apos cpos : Pos}
theorem ok_ext : OkM X.K cl "list" rExtend extD := by
  intro W σ am S H o ds x vs Q rs h1 h2 p
  cases h1 with
  | @ref k a hk =>
    cases h2 with
    | nil => exact p.elim
    | cons r1 r2 =>
      cases r2 with
      | cons _ _ => cases r1 <;> exact p.elim
      | nil =>
        cases r1 with
        | @lst b zs ys h3 h4 h5 =>
          simp only [extD] at p
          cases e1 : S[k]? with
          | none => rw [e1] at p; exact p.elim
          | some ob =>
            rw [e1] at p
            cases ob with
            | lst xs =>
              obtain ⟨us, q1, q2⟩ := rs.ob k _ a e1 hk
              simp only at p
              by_cases hz : xs.length + ys.length ≤ sizeLine
              · rw [if_pos hz] at p
                have hm : a ∈ am.ad := List.mem_of_getElem? hk
                exact ⟨a, b, us, zs, rfl, rfl, q1, h3, by rw [← q2.length, ← h5.length]; exact hz, p am _ _ (Grow.put hm) (rs.put hk ⟨_, upd_same, (q2.append h5).mono (Grow.put hm)⟩) .non⟩
              · rw [if_neg hz] at p
                exact p.elim
            | _ => exact p.elim
        | _ => exact p.elim
  | _ => exact p.elim
theorem qe_extend (ho : QE cl W X o g) (ha : QE cl W X a f) (h0 : starEach [a] X.env = (false, eval a X.env) :: starEach [] X.env := by rfl)
    (hbase : attributeBase o "extend" X.env (eval o X.env) = eval o X.env := by rfl)
    (hfew : ((backTo cpos (starEach [a] X.env)).all (fun x => !x.1) && (backToKw cpos (keywordEach [] X.env)).all (fun x => x.1.isSome) && decide (([a] : List Expr).length + ([] : List Keyword).length + (if ([] : List Keyword).isEmpty then 0 else 1) < 30)) = true := by rfl)
    (hline : (apos.endLine == cpos.line) = true := by rfl) (hplain : (backTo cpos (starEach [] X.env)).any (·.1) = false := by rfl) :
    QE cl W X (.Call (.Attribute o "extend" apos) [a] [] cpos) (eM "list" extD g [f]) := qe_bm PySem.F.plainAttrs_list PySem.F.slot_list_extend PySem.F.type_list_extend mt_extend ok_ext ho (qa_cons ha qa_nil h0) hbase hfew hline h0 hplain
end
theorem extD_ref {k : Nat} {xs ys : List D} {S : Sto} (h : S[k]? = some (.lst xs)) (hl : xs.length + ys.length < 1000000) : extD (.ref k) [.lst ys] S = .ok .non (S.set k (.lst (xs ++ ys))) := by
  simp only [extD, h]
  rw [if_pos (Nat.le_of_lt (sz (by omega)))]
@[simp] theorem ap_iEA {f : Ev D} {e : En} {S : Sto} : iEA f e S = (f e S).bind srcEA := id rfl
theorem forEA_tup {dead : List Nat} {tg : Tg} {f : Ev D} {a : Stm} {e : En} {S : Sto} {xs : List D} (hf : f e S = .ok (.tup xs) S) : sFor dead tg (iEA f) a e S = forD dead tg (.tmp (enumL xs)) a (enumL xs) e S := by
  rw [ap_For, ap_iEA, hf, Res.bind_ok]
  rfl
theorem nLcEA_tup {vs : List Nat} {tg : Tg} {f g : Ev D} {t : Ev Bool} {e : En} {S : Sto} {xs ys : List D} (hf : f e S = .ok (.tup xs) S) (hl : xs.length < 1000000) (q : lcD tg (.tmp (enumL xs)) t g (wipeE e vs) (enumL xs) S = .ok ys S) : nLc vs tg (iEA f) t g e S = .ok (.lst ys) S := by
  rw [ap_Lc, ap_iEA, hf, Res.bind_ok]
  show (if _ then _ else _) = _
  rw [if_pos (Nat.le_of_lt (sz (by show (enumL xs).length < _; unfold enumL; simp; omega)))]
  show (lcD tg (.tmp (enumL xs)) t g (wipeE e vs) (enumL xs) S).bind _ = _
  rw [q, Res.bind_ok]
end Pu
set_option Elab.async false
set_option linter.all false
set_option maxRecDepth 100000
namespace Pu
open PySem PySem.Spec PyProof.Rows L2
def mnL : List Int → Int
  | [] => 0
  | n :: ns => ns.foldl minI n
def mxL : List Int → Int
  | [] => 0
  | n :: ns => ns.foldl maxI n
theorem mn_fold : ∀ (ns : List Int) (n : Int), (ns.foldl minI n ∈ n :: ns) ∧ ∀ y ∈ n :: ns, ns.foldl minI n ≤ y
  | [], n => ⟨by simp, fun y hy => by rw [List.mem_singleton] at hy; subst hy; exact Int.le_refl _⟩
  | m :: ns, n => by
    obtain ⟨h1, h2⟩ := mn_fold ns (minI n m)
    have h3 : minI n m = n ∨ minI n m = m := by unfold minI; split <;> simp
    have h4 : minI n m ≤ n ∧ minI n m ≤ m := by unfold minI; split <;> omega
    refine ⟨?_, fun y hy => ?_⟩
    · rw [List.foldl_cons]
      rcases List.mem_cons.mp h1 with h | h
      · rw [h]
        rcases h3 with e | e <;> rw [e] <;> simp
      · exact List.mem_cons_of_mem _ (List.mem_cons_of_mem _ h)
    · rw [List.foldl_cons]
      have h5 := h2 (minI n m) List.mem_cons_self
      rcases List.mem_cons.mp hy with rfl | hy
      · omega
      · rcases List.mem_cons.mp hy with rfl | hy
        · omega
        · exact h2 y (List.mem_cons_of_mem _ hy)
theorem mx_fold : ∀ (ns : List Int) (n : Int), (ns.foldl maxI n ∈ n :: ns) ∧ ∀ y ∈ n :: ns, y ≤ ns.foldl maxI n
  | [], n => ⟨by simp, fun y hy => by rw [List.mem_singleton] at hy; subst hy; exact Int.le_refl _⟩
  | m :: ns, n => by
    obtain ⟨h1, h2⟩ := mx_fold ns (maxI n m)
    have h3 : maxI n m = n ∨ maxI n m = m := by unfold maxI; split <;> simp
    have h4 : n ≤ maxI n m ∧ m ≤ maxI n m := by unfold maxI; split <;> omega
    refine ⟨?_, fun y hy => ?_⟩
    · rw [List.foldl_cons]
      rcases List.mem_cons.mp h1 with h | h
      · rw [h]
        rcases h3 with e | e <;> rw [e] <;> simp
      · exact List.mem_cons_of_mem _ (List.mem_cons_of_mem _ h)
    · rw [List.foldl_cons]
      have h5 := h2 (maxI n m) List.mem_cons_self
      rcases List.mem_cons.mp hy with rfl | hy
      · omega
      · rcases List.mem_cons.mp hy with rfl | hy
        · omega
        · exact h2 y (List.mem_cons_of_mem _ hy)
theorem mnL_ok {ns : List Int} (h : 0 < ns.length) : mnL ns ∈ ns ∧ ∀ y ∈ ns, mnL ns ≤ y := by
  cases ns with
  | nil => cases h
  | cons n ns => exact mn_fold ns n
theorem mxL_ok {ns : List Int} (h : 0 < ns.length) : mxL ns ∈ ns ∧ ∀ y ∈ ns, y ≤ mxL ns := by
  cases ns with
  | nil => cases h
  | cons n ns => exact mx_fold ns n
/-- .. of a list that is not empty -/
def neL (f : List Int → Int) (ds : List D) (S : Sto) : Res D := match ds with
  | [d] => match (lsOf S d).bind intsL with
    | some ns => if 0 < ns.length then .ok (.int (f ns)) S else .bad
    | none => .bad
  | _ => .bad
section
variable {cl : Str → Addr} {W : WX} {X : Cx} {a : Expr} {fs : List (Ev D)} {p pos : Pos}
theorem ok_neL {f : List Int → Int} {r : List V → Hp → VK → Prop} (hr : ∀ (a : Addr) (ns : List Int) (H : Hp) (Q : VK), SqL X.K H a (ns.map V.int) → 0 < ns.length → Q (.int (f ns)) H → r [V.ref a] H Q) : OkN X.K cl r (neL f) := by
  intro W σ am S H ds vs Q rs h p
  cases h with
  | nil => exact p.elim
  | @cons d v ds vs r1 r2 =>
    cases r2 with
    | cons _ _ => exact p.elim
    | nil =>
      simp only [neL] at p
      cases q : lsOf S d with
      | none => simp only [q, Option.bind_none] at p; exact p.elim
      | some xs =>
        simp only [q, Option.bind_some] at p
        cases q2 : intsL xs with
        | none => rw [q2] at p; exact p.elim
        | some ns =>
          rw [q2] at p
          simp only at p
          by_cases hl : 0 < ns.length
          · rw [if_pos hl] at p
            obtain ⟨l, us, ev, k1, k2⟩ := lsOf_ok rs r1 q
            subst ev
            have k3 := ints_ok k2 q2
            rw [k3] at k1
            exact hr l ns H Q k1 hl (p am _ H .refl rs (.int _))
          · rw [if_neg hl] at p
            exact p.elim
theorem qe_minL (hc : X.calm = true) (hg : Gl X "min") (hm : X.mg "min" = none) (ha : QA cl W X [a] (eArgs fs)) (he : starEach [a] X.env = (false, eval a X.env) :: starEach [] X.env := by rfl) (hpl : (backTo pos (starEach [] X.env)).any (·.1) = false := by rfl) :
    QE cl W X (.Call (.Name "min" p) [a] [] pos) (eCall (neL mnL) fs) := qe_callB (cr_min hc) (ok_neL fun a ns H Q h1 h2 q => ⟨a, ns, rfl, h1, h2, fun m hm hle => by
      obtain ⟨g1, g2⟩ := mnL_ok h2
      have := hle _ g1
      have := g2 _ hm
      have e : m = mnL ns := by omega
      rw [e]
      exact q⟩) hg hm (by decide +kernel) ha (by decide) (by decide) he hpl
theorem qe_maxL (hc : X.calm = true) (hg : Gl X "max") (hm : X.mg "max" = none) (ha : QA cl W X [a] (eArgs fs)) (he : starEach [a] X.env = (false, eval a X.env) :: starEach [] X.env := by rfl) (hpl : (backTo pos (starEach [] X.env)).any (·.1) = false := by rfl) :
    QE cl W X (.Call (.Name "max" p) [a] [] pos) (eCall (neL mxL) fs) := qe_callB (cr_max hc) (ok_neL fun a ns H Q h1 h2 q => ⟨a, ns, rfl, h1, h2, fun m hm hle => by
      obtain ⟨g1, g2⟩ := mxL_ok h2
      have := hle _ g1
      have := g2 _ hm
      have e : m = mxL ns := by omega
      rw [e]
      exact q⟩) hg hm (by decide +kernel) ha (by decide) (by decide) he hpl
end
theorem neL_map {f : List Int → Int} {ns : List Int} {S : Sto} (h : 0 < ns.length) : neL f [.lst (ns.map D.int)] S = .ok (.int (f ns)) S := by
  have e : (lsOf S (.lst (ns.map D.int))).bind intsL = some ns := by
    show intsL (ns.map D.int) = some ns
    clear h
    induction ns with
    | nil => rfl
    | cons n ns ih =>
      show (intsL (ns.map D.int)).map (n :: ·) = _
      rw [ih]
      rfl
  simp only [neL, e]
  rw [if_pos h]
end Pu
set_option Elab.async false
set_option linter.all false
set_option maxRecDepth 100000
namespace Pu
open PySem PySem.Spec PyProof.Rows L2
def insD (o : D) (ds : List D) (S : Sto) : Res D := match o, ds with
  | .ref k, [.int i, y] => match S[k]? with
    | some (.lst xs) => if xs.length < sizeLine ∧ 0 ≤ i ∧ i < 2 ^ 63 then .ok .non (S.set k (.lst (xs.take i.toNat ++ [y] ++ xs.drop i.toNat))) else .bad
    | _ => .bad
  | _, _ => .bad
section
variable {cl : Str → Addr} {W : WX} {X : Cx} {a b o : Expr} {f g h : Ev D} {apos cpos : Pos}
abbrev rIns : V → List V → Hp → VK → Prop := fun x vs H Q => ∃ (l : Addr) (xs : List V) (i : Int) (y : V), x = .ref l ∧ vs = [.int i, y] ∧ H l = some (.lst xs) ∧ xs.length < sizeLine ∧ 0 ≤ i ∧ i < 2 ^ 63 ∧
  Q .non (L2.upd H l (.lst (xs.take i.toNat ++ [y] ++ xs.drop i.toNat)))
theorem ok_ins : OkM X.K cl "list" rIns insD := by
  intro W σ am S H o ds x vs Q rs h1 h2 p
  cases h1 with
  | @ref k a hk =>
    match ds, vs, h2, p with
    | [d1, d2], _, .cons (v := v1) r1 (.cons (v := v2) r2 .nil), p =>
      cases r1 with
      | int i =>
        simp only [insD] at p
        cases q0 : S[k]? with
        | none => rw [q0] at p; exact p.elim
        | some ob =>
          rw [q0] at p
          cases ob with
          | lst xs =>
            obtain ⟨us, q1, q2⟩ := rs.ob k _ a q0 hk
            simp only at p
            by_cases hz : xs.length < sizeLine ∧ 0 ≤ i ∧ i < 2 ^ 63
            · rw [if_pos hz] at p
              have hm : a ∈ am.ad := List.mem_of_getElem? hk
              refine ⟨a, us, i, v2, rfl, rfl, q1, by rw [← q2.length]; exact hz.1, hz.2.1, hz.2.2, p am _ _ (Grow.put hm) (rs.put hk ⟨_, upd_same, ?_⟩) .non⟩
              exact (((q2.take i.toNat).append (.cons r2 .nil)).append (q2.drop i.toNat)).mono (Grow.put hm)
            · rw [if_neg hz] at p
              exact p.elim
          | _ => exact p.elim
      | _ => exact p.elim
    | [], _, _, p => exact p.elim
    | [_], _, .cons r1 .nil, p => cases r1 <;> exact p.elim
    | _ :: _ :: _ :: _, _, .cons r1 _, p => cases r1 <;> exact p.elim
  | _ => exact p.elim
theorem qe_insert (ho : QE cl W X o g) (ha : QE cl W X a f) (hb : QE cl W X b h) (h0 : starEach [b] X.env = (false, eval b X.env) :: starEach [] X.env := by rfl) (h1 : starEach [a, b] X.env = (false, eval a X.env) :: starEach [b] X.env := by rfl)
    (hbase : attributeBase o "insert" X.env (eval o X.env) = eval o X.env := by rfl)
    (hfew : ((backTo cpos (starEach [a, b] X.env)).all (fun x => !x.1) && (backToKw cpos (keywordEach [] X.env)).all (fun x => x.1.isSome) && decide (([a, b] : List Expr).length + ([] : List Keyword).length + (if ([] : List Keyword).isEmpty then 0 else 1) < 30)) = true := by rfl)
    (hline : (apos.endLine == cpos.line) = true := by rfl) (hplain : (backTo cpos (starEach [b] X.env)).any (·.1) = false := by rfl) :
    QE cl W X (.Call (.Attribute o "insert" apos) [a, b] [] cpos) (eM "list" insD g [f, h]) := qe_bm PySem.F.plainAttrs_list PySem.F.slot_list_insert PySem.F.type_list_insert mt_insert ok_ins ho (qa_cons ha (qa_cons hb qa_nil h0) h1) hbase hfew hline h1 hplain
end
theorem insD_ref {k n : Nat} {xs : List D} {y : D} {S : Sto} (h : S[k]? = some (.lst xs)) (hl : xs.length < 1000000) (hn : n < 1000000) : insD (.ref k) [.int (n : Nat), y] S = .ok .non (S.set k (.lst (xs.take n ++ [y] ++ xs.drop n))) := by
  simp only [insD, h]
  rw [if_pos ⟨sz (by omega), by omega, by omega⟩]
  rfl
end Pu
set_option Elab.async false
set_option linter.all false
set_option maxRecDepth 100000
namespace Pu
open PySem PySem.Spec PyProof.Rows L2
section
variable {X : Cx}
def rBestT (K : PySem.W.Frag) (le : Int → Int → Prop) : List V → Hp → VK → Prop := fun vs H Q => ∃ (a : Addr) (ns : List Int), vs = [V.ref a] ∧ SqT K H a (ns.map V.int) ∧ 0 < ns.length ∧ ∀ m, m ∈ ns → (∀ y, y ∈ ns → le m y) → Q (.int m) H
theorem cr_minT (hc : X.calm = true) : CallR X (.builtin "min") (rBestT X.K fun m y => m ≤ y) := by
  intro pins s σ H vs us Q I r h
  obtain ⟨a, ns, rfl, hs, hne, q⟩ := h
  obtain ⟨its, rv, hl, _⟩ := I.tuple hs
  rw [Vals.ref1 r]
  have hi := rv.ints
  obtain ⟨xs, ex⟩ := hi.allInts.items
  have hn : numsOf (intItems xs).toList = ns := by
    have z := hi.numsOf
    rw [← ex]
    exact z
  rw [nums_intItems] at hn
  subst hn
  have hT : s.heap.IsTuple a (intItems xs) := by
    rw [← ex]
    exact hl
  have h0 : 0 < xs.size := by simpa using hne
  have hlt : a < s.heap.objs.size := hl.lt
  refine call_min_walk (wpAny_pyIter_tuple hT ?_)
  refine ⟨_, _, _, _, _, _, _, rfl, Walks.tuple (A := X.A.in1) (I.ok.hd hc) s.heap.objs.size a (Nat.ne_of_lt hlt) (intItems xs), ⟨⟨_, Heap.get?_push_size _ rfl, rfl, rfl⟩, hT.push _⟩, fun b hb => ?_, by simpa [intItems] using h0, CmpOf.ints_lt (numAt xs) (fun _ _ => intItems_at), fun v h' tk hP hk => ?_⟩
  · show b < (s.heap.push _).objs.size
    rw [Heap.size_push]
    simp only [List.mem_cons, List.not_mem_nil, or_false] at hb
    rcases hb with e | e <;> subst e
    · exact Nat.lt_succ_self _
    · exact Nat.lt_succ_of_lt hlt
  · have hv : (intItems xs)[argBest (fun i j => decide (numAt xs i < numAt xs j)) (xs.size - 1)]? = some v := by simpa [intItems] using hP
    obtain ⟨t, rfl⟩ := intItems_at hv
    obtain ⟨g1, g2⟩ := argBest_lt (numAt xs) (xs.size - 1)
    refine ⟨.int _, H, I.kept (t' := tk) fun b o e => hk b o (fun hm => ?_) (Heap.get?_push_of_some _ e), ⟨_, rfl⟩, q _ ?_ fun y hy => ?_⟩
    · exact absurd (Heap.lt_size e) ((List.mem_singleton.mp hm) ▸ Nat.lt_irrefl _)
    · rw [numAt_eq]
      exact PySem.getD_mem (by rw [List.length_map, Array.length_toList]; omega)
    · obtain ⟨j, hj, rfl⟩ := mem_getD hy
      rw [List.length_map, Array.length_toList] at hj
      rw [← numAt_eq]
      exact g2 j (by omega)
theorem cr_maxT (hc : X.calm = true) : CallR X (.builtin "max") (rBestT X.K fun m y => y ≤ m) := by
  intro pins s σ H vs us Q I r h
  obtain ⟨a, ns, rfl, hs, hne, q⟩ := h
  obtain ⟨its, rv, hl, _⟩ := I.tuple hs
  rw [Vals.ref1 r]
  have hi := rv.ints
  obtain ⟨xs, ex⟩ := hi.allInts.items
  have hn : numsOf (intItems xs).toList = ns := by
    have z := hi.numsOf
    rw [← ex]
    exact z
  rw [nums_intItems] at hn
  subst hn
  have hT : s.heap.IsTuple a (intItems xs) := by
    rw [← ex]
    exact hl
  have h0 : 0 < xs.size := by simpa using hne
  have hlt : a < s.heap.objs.size := hl.lt
  refine call_max_walk (wpAny_pyIter_tuple hT ?_)
  refine ⟨_, _, _, _, _, _, _, rfl, Walks.tuple (A := X.A.in1) (I.ok.hd hc) s.heap.objs.size a (Nat.ne_of_lt hlt) (intItems xs), ⟨⟨_, Heap.get?_push_size _ rfl, rfl, rfl⟩, hT.push _⟩, fun b hb => ?_, by simpa [intItems] using h0, CmpOf.ints_gt (numAt xs) (fun _ _ => intItems_at), fun v h' tk hP hk => ?_⟩
  · show b < (s.heap.push _).objs.size
    rw [Heap.size_push]
    simp only [List.mem_cons, List.not_mem_nil, or_false] at hb
    rcases hb with e | e <;> subst e
    · exact Nat.lt_succ_self _
    · exact Nat.lt_succ_of_lt hlt
  · have hv : (intItems xs)[argBest (fun i j => decide (numAt xs i > numAt xs j)) (xs.size - 1)]? = some v := by simpa [intItems] using hP
    obtain ⟨t, rfl⟩ := intItems_at hv
    obtain ⟨g1, g2⟩ := argBest_gt (numAt xs) (xs.size - 1)
    refine ⟨.int _, H, I.kept (t' := tk) fun b o e => hk b o (fun hm => ?_) (Heap.get?_push_of_some _ e), ⟨_, rfl⟩, q _ ?_ fun y hy => ?_⟩
    · exact absurd (Heap.lt_size e) ((List.mem_singleton.mp hm) ▸ Nat.lt_irrefl _)
    · rw [numAt_eq]
      exact PySem.getD_mem (by rw [List.length_map, Array.length_toList]; omega)
    · obtain ⟨j, hj, rfl⟩ := mem_getD hy
      rw [List.length_map, Array.length_toList] at hj
      rw [← numAt_eq]
      exact g2 j (by omega)
theorem cr_or {c : Value} {r r' : List V → Hp → VK → Prop} (h : CallR X c r) (h' : CallR X c r') : CallR X c (fun vs H Q => r vs H Q ∨ r' vs H Q) := fun pins s σ H vs us Q I rv q => q.elim (h pins s σ H vs us Q I rv) (h' pins s σ H vs us Q I rv)
end
/-- .. of a list or a tuple that is not empty -/
def neB (f : List Int → Int) (ds : List D) (S : Sto) : Res D := match ds with
  | [d] => match (sqOf S d).bind intsL with
    | some ns => if 0 < ns.length then .ok (.int (f ns)) S else .bad
    | none => .bad
  | _ => .bad
section
variable {cl : Str → Addr} {W : WX} {X : Cx} {a : Expr} {fs : List (Ev D)} {p pos : Pos}
theorem ok_neB {f : List Int → Int} {r : List V → Hp → VK → Prop} (hr : ∀ (a : Addr) (ns : List Int) (H : Hp) (Q : VK), (SqL X.K H a (ns.map V.int) ∨ SqT X.K H a (ns.map V.int)) → 0 < ns.length → Q (.int (f ns)) H → r [V.ref a] H Q) : OkN X.K cl r (neB f) := by
  intro W σ am S H ds vs Q rs h p
  match ds, vs, h, p with
  | [d], _, .cons (v := v) r1 .nil, p =>
    simp only [neB] at p
    cases q : sqOf S d with
    | none => simp only [q, Option.bind_none] at p; exact p.elim
    | some xs =>
      simp only [q, Option.bind_some] at p
      cases q2 : intsL xs with
      | none => rw [q2] at p; exact p.elim
      | some ns =>
        rw [q2] at p
        simp only at p
        by_cases hl : 0 < ns.length
        · rw [if_pos hl] at p
          obtain ⟨l, us, ev, k1, k2⟩ := sqOf_ok rs r1 q
          subst ev
          have k3 := ints_ok k2 q2
          rw [k3] at k1
          exact hr l ns H Q k1 hl (p am _ H .refl rs (.int _))
        · rw [if_neg hl] at p
          exact p.elim
  | [], _, _, p => exact p.elim
  | _ :: _ :: _, _, _, p => exact p.elim
theorem qe_minB (hc : X.calm = true) (hg : Gl X "min") (hm : X.mg "min" = none) (ha : QA cl W X [a] (eArgs fs)) (he : starEach [a] X.env = (false, eval a X.env) :: starEach [] X.env := by rfl) (hpl : (backTo pos (starEach [] X.env)).any (·.1) = false := by rfl) :
    QE cl W X (.Call (.Name "min" p) [a] [] pos) (eCall (neB mnL) fs) := qe_callB (cr_or (cr_min hc) (cr_minT hc)) (ok_neB fun a ns H Q h1 h2 q => by
      have key : ∀ m, m ∈ ns → (∀ y, y ∈ ns → m ≤ y) → Q (.int m) H := fun m hm hle => by
        obtain ⟨g1, g2⟩ := mnL_ok h2
        have := hle _ g1
        have := g2 _ hm
        have e : m = mnL ns := by omega
        rw [e]
        exact q
      rcases h1 with h1 | h1
      · exact .inl ⟨a, ns, rfl, h1, h2, key⟩
      · exact .inr ⟨a, ns, rfl, h1, h2, key⟩) hg hm (by decide +kernel) ha (by decide) (by decide) he hpl
theorem qe_maxB (hc : X.calm = true) (hg : Gl X "max") (hm : X.mg "max" = none) (ha : QA cl W X [a] (eArgs fs)) (he : starEach [a] X.env = (false, eval a X.env) :: starEach [] X.env := by rfl) (hpl : (backTo pos (starEach [] X.env)).any (·.1) = false := by rfl) :
    QE cl W X (.Call (.Name "max" p) [a] [] pos) (eCall (neB mxL) fs) := qe_callB (cr_or (cr_max hc) (cr_maxT hc)) (ok_neB fun a ns H Q h1 h2 q => by
      have key : ∀ m, m ∈ ns → (∀ y, y ∈ ns → y ≤ m) → Q (.int m) H := fun m hm hle => by
        obtain ⟨g1, g2⟩ := mxL_ok h2
        have := hle _ g1
        have := g2 _ hm
        have e : m = mxL ns := by omega
        rw [e]
        exact q
      rcases h1 with h1 | h1
      · exact .inl ⟨a, ns, rfl, h1, h2, key⟩
      · exact .inr ⟨a, ns, rfl, h1, h2, key⟩) hg hm (by decide +kernel) ha (by decide) (by decide) he hpl
end
theorem intsL_map (ns : List Int) : intsL (ns.map D.int) = some ns := by
  induction ns with
  | nil => rfl
  | cons n ns ih =>
    show (intsL (ns.map D.int)).map (n :: ·) = _
    rw [ih]
    rfl
theorem neB_map {f : List Int → Int} {ns : List Int} {S : Sto} (h : 0 < ns.length) : neB f [.lst (ns.map D.int)] S = .ok (.int (f ns)) S := by
  simp only [neB, sqOf_lst, Option.bind_some, intsL_map]
  rw [if_pos h]
theorem neB_tup {f : List Int → Int} {ns : List Int} {S : Sto} (h : 0 < ns.length) : neB f [.tup (ns.map D.int)] S = .ok (.int (f ns)) S := by
  simp only [neB, sqOf_tup, Option.bind_some, intsL_map]
  rw [if_pos h]
end Pu
set_option Elab.async false
set_option linter.all false
set_option maxRecDepth 100000
namespace Pu
open PySem PySem.Spec PyProof.Rows L2
/-- an own class of refusals -/
structure ClsE (K : PySem.W.Frag) (mg : Str → Option Value) (cl : Str → Addr) (x : Str) : Prop where
  g : mg x = some (.ref (cl x))
  e : PySem.W.excIn K (cl x) [.type "ValueError", .type "Exception", .type "BaseException", .type "object"] "ValueError.__new__" = true
  k : PySem.W.keepIn K (.ref (cl x)) = true
  b : PySem.W.subIn K (.ref (cl x)) (.type "BaseException") = some true
  t : PySem.W.typeIn K (.ref (cl x)) = some (.type "type")
  d : PySem.W.hasDictIn K (cl x) = true
/-- the classes stand where the names of the text say -/
def clK (K : PySem.W.Frag) : Str → Addr := fun x => match PySem.W.nsIn K mainGlobals x with
  | some (some (.ref f)) => f
  | _ => 0
theorem clK_of {K : PySem.W.Frag} {x : Str} {f : Addr} (a : PySem.W.nsIn K mainGlobals x = some (some (.ref f))) : clK K x = f := by
  unfold clK
  rw [a]
theorem clsE_mk {K : PySem.W.Frag} {h : Heap} {mg : Str → Option Value} {x : Str} {f : Addr} (X : K.In h) (G : h.Ns mainGlobals mg) (a : PySem.W.nsIn K mainGlobals x = some (some (.ref f)))
    (e : PySem.W.excIn K f [.type "ValueError", .type "Exception", .type "BaseException", .type "object"] "ValueError.__new__" = true) (k : PySem.W.keepIn K (.ref f) = true) (b : PySem.W.subIn K (.ref f) (.type "BaseException") = some true) (t : PySem.W.typeIn K (.ref f) = some (.type "type")) (d : PySem.W.hasDictIn K f = true) : ClsE K mg (clK K) x := by
  have q := clK_of a
  exact ⟨by rw [q]; exact PySem.W.mg_of X G a, by rw [q]; exact e, by rw [q]; exact k, by rw [q]; exact b, by rw [q]; exact t, by rw [q]; exact d⟩
theorem takesN {X : Cx} : L2N.Takes X (fun _ _ _ _ => False) := fun _ _ x => by
  obtain ⟨_, _, _, _, _, _, _, _, _, _, _, _, _, _, _, _, z⟩ := x
  exact z.elim
def sRaise (x : Str) : Stm := fun e S => .exc x e S
section
variable {cl : Str → Addr} {W : WX} {X : Cx}
theorem qs_raise {x m : Str} {j} {p p2 pos pos' : Pos} (hc : X.calm = true) (tk : L2N.Takes X W) (E : ClsE X.K X.mg cl x) (hg : Gl X x) (hdb : (x == ("__debug__" : Str)) = false := by decide) :
    QS cl W X (.Raise (some (.Call (.Name x p) [.Constant (.str m) j p2] [] pos)) none pos') (sRaise x) :=
  (L2N.ps_raise hc tk (L2N.pmk_own PySem.F.excBase_ValueError E.e E.g E.k (L2.raises_own E.b E.t) hg hdb)).imp fun D σ H ⟨am, e, S, rs, re, p⟩ => p am σ H .refl rs re
end
def sTry (ks : List (Str × Bool)) (i : Nat) (u : Stm) (hd : Str → Stm) : Stm := fun e S => match u e S with
  | .exc c e1 S1 => match ks.lookup c with
    | some true => if e1[i]?.isSome = true then (match hd c (e1.set i none) S1 with
      | .next e2 S2 => .next (e2.set i none) S2
      | .brk e2 S2 => .brk (e2.set i none) S2
      | .cnt e2 S2 => .cnt (e2.set i none) S2
      | .ret d S2 => .ret d S2
      | _ => .bad) else .bad
    | some false => .exc c e1 S1
    | none => .bad
  | r => r
def noW : WX := fun _ _ _ _ => False
/-- the reading of an except suite; a: what was caught, in slot i -/
def TDh (K : PySem.W.Frag) (cl : Str → Addr) (i : Nat) (a : Addr) (f : Stm) : TS := fun D σ H => ∃ am e S, RelS K cl am S H ∧ RelE K am H e σ ∧ σ[i]? = some (some (.ref a)) ∧ PostS K cl noW am H (f e S) D
def QH (cl : Str → Addr) (X : Cx) (i : Nat) (c : Str) (suite : List Stmt) (f : Stm) : Prop := ∀ (a : Addr) (oe : Obj) (pn : List (Addr × Obj)), L2N.Zn (.ref (cl c)) none oe → (∃ vs, oe.data = .fields vs) → PSs (X.suite a ((a, oe) :: pn)) suite (TDh X.K cl i a f)
theorem RelE.hold {K : PySem.W.Frag} {am : AM} {H : Hp} {e : En} {σ : L2.St} (r : RelE K am H e σ) (i : Nat) (v : V) : RelE K am H (e.set i none) (σ.set i (some v)) := ⟨by rw [List.length_set, List.length_set]; exact r.len, fun j x hx => by
  by_cases hj : i = j
  · subst hj
    rw [List.getElem?_set_self'] at hx
    cases q : e[i]? with
    | none => rw [q] at hx; cases hx
    | some z =>
      rw [q] at hx
      cases Option.some.inj hx
  · rw [List.getElem?_set_ne hj] at hx ⊢
    exact r.get j x hx⟩
section
variable {cl : Str → Addr} {W : WX} {X : Cx}
theorem qs_try {ks : List (Str × Bool)} {x n : Str} {c : Value} {i : Nat} {body suite : List Stmt} {b₀ : Stmt} {np pos pos' : Pos} {u : Stm} {hd : Str → Stm} (hs : X.stack = X.env :: X.outer) (hf : X.env.frame = some X.env.locals) (hN : X.N.Nodup) (hi : X.N[i]? = some n) (hln : X.env.kindOf n = some .local) (hc : Names X x c) (tk : L2N.Takes X W)
    (hb : ∀ (W' : WX) (pn : List (Addr × Obj)) (xe : Value → Shared → Prop), L2N.Takes (X.tr pn xe) W' → PassesOwn (model X.prog X.w) X.A X.env xe → QB cl W' (X.tr pn xe) body u)
    (hks0 : ∀ p ∈ ks, PySem.W.exmOne X.K (.ref (cl p.1)) c = some p.2)
    (hsu0 : ∀ p ∈ ks, p.2 = true → QH cl X i p.1 (b₀ :: suite) (hd p.1)) :
    QS cl W X (.Try body [.ExceptHandler (some (.Name x np)) (some n) (b₀ :: suite) pos'] [] [] pos) (sTry ks i u hd) := by
  have hks : ∀ y b, ks.lookup y = some b → PySem.W.exmOne X.K (.ref (cl y)) c = some b := fun y b h => hks0 (y, b) (mem_of_lookup h)
  have hsu : ∀ y, ks.lookup y = some true → QH cl X i y (b₀ :: suite) (hd y) := fun y h => hsu0 (y, true) (mem_of_lookup h) rfl
  refine (L2N.ps_try_as (tb := fun W' => TDs X.K cl W' u) (ts := fun a cls d D σ H => ∃ y, cls = .ref (cl y) ∧ d = none ∧ ks.lookup y = some true ∧ TDh X.K cl i a (hd y) D σ H) (Wout := W) hs hf hN hi hln hc tk hb (fun a oe cls d pn hz hfl => ⟨fun pins s σ H D I h => ?_⟩)).imp ?_
  · obtain ⟨y, rfl, rfl, hl, h⟩ := h
    exact (hsu y hl a oe pn hz hfl).run pins s σ H D I h
  · intro D σ H ⟨am, e, S, rs, re, p⟩
    refine ⟨am, e, S, rs, re, ?_⟩
    unfold sTry at p
    cases q : u e S with
    | next e1 S1 => rw [q] at p; exact p
    | ret d S1 => rw [q] at p; exact p
    | brk e1 S1 => rw [q] at p; exact p
    | cnt e1 S1 => rw [q] at p; exact p
    | bad => rw [q] at p; exact p.elim
    | exc y e1 S1 =>
      rw [q] at p
      simp only at p
      intro am' σ' H' g rs' re'
      cases hl : ks.lookup y with
      | none => rw [hl] at p; exact p.elim
      | some b =>
        rw [hl] at p
        refine ⟨b, hks y b hl, fun hb1 a na => ?_, fun hb0 => ?_⟩
        · subst hb1
          simp only at p
          by_cases h9 : e1[i]?.isSome = true
          · rw [if_pos h9] at p
            have hi9 : i < σ'.length := by
              rw [← re'.len]
              exact (List.getElem?_eq_some_iff.mp (Option.isSome_iff_exists.mp h9).choose_spec).1
            refine ⟨y, rfl, rfl, hl, am', e1.set i none, S1, rs', re'.hold i _, by rw [List.getElem?_set_self hi9], ?_⟩
            cases q2 : hd y (e1.set i none) S1 with
            | next e2 S2 =>
              rw [q2] at p
              exact fun am2 σ2 H2 g2 rs2 re2 => p am2 _ H2 (g.trans g2) rs2 (re2.wipe [i])
            | brk e2 S2 =>
              rw [q2] at p
              exact fun am2 σ2 H2 g2 rs2 re2 => p am2 _ H2 (g.trans g2) rs2 (re2.wipe [i])
            | cnt e2 S2 =>
              rw [q2] at p
              exact fun am2 σ2 H2 g2 rs2 re2 => p am2 _ H2 (g.trans g2) rs2 (re2.wipe [i])
            | ret d S2 =>
              rw [q2] at p
              exact fun am2 v2 H2 g2 rs2 rv2 => p am2 v2 H2 (g.trans g2) rs2 rv2
            | exc y2 e2 S2 => rw [q2] at p; exact p.elim
            | bad => rw [q2] at p; exact p.elim
          · rw [if_neg h9] at p
            exact p.elim
        · subst hb0
          exact p am' σ' H' g rs' re'
/-- a suite that leaves what was caught alone -/
theorem qh_of {i : Nat} {c : Str} {suite : List Stmt} {f : Stm} (h : ∀ (a : Addr) (oe : Obj) (pn : List (Addr × Obj)), QB cl noW (X.suite a ((a, oe) :: pn)) suite f) : QH cl X i c suite f := fun a oe pn _ _ => (h a oe pn).imp fun D σ H ⟨am, e, S, rs, re, _, p⟩ => ⟨am, e, S, rs, re, p⟩
end
def tHE (i : Nat) (a : Addr) (v : Bool) : TE := fun σ H Q => σ[i]? = some (some (.ref a)) ∧ ∀ H', (∀ b o, H b = some o → H' b = some o) → Q (.bl v) H'
abbrev HE (X : Cx) (i : Nat) (a : Addr) (ex : Expr) (v : Bool) : Prop := PE X ex (tHE i a v)
theorem RelS.wide {K : PySem.W.Frag} {cl : Str → Addr} {am : AM} {S : Sto} {H H' : Hp} (r : RelS K cl am S H) (k : ∀ b o, H b = some o → H' b = some o) : Grow am am H H' ∧ RelS K cl am S H' := by
  have g : Grow am am H H' := ⟨⟨[], by simp⟩, fun _ h h' => absurd h h', fun _ h h' => absurd h h', fun _ h => h, fun b o h _ => k b o h⟩
  exact ⟨g, r.len, r.nd, fun n u a h1 h2 => (r.ob n u a h1 h2).mono g fun w hw => k a w hw, fun a ha => by
    obtain ⟨o, e⟩ := r.there a ha
    exact ⟨o, k a o e⟩⟩
section
variable {cl : Str → Addr} {X : Cx}
theorem qh_ret {i : Nat} {c : Str} {ex : Expr} {pos : Pos} {v : Bool} (h : ∀ (a : Addr) (oe : Obj) (pn : List (Addr × Obj)), L2N.Zn (.ref (cl c)) none oe → (∃ vs, oe.data = .fields vs) → HE (X.suite a ((a, oe) :: pn)) i a ex v) : QH cl X i c [.Return (some ex) pos] (sRet (eC (.bl v))) := fun a oe pn hz hf =>
  (pss_one (ps_ret (h a oe pn hz hf))).imp fun D σ H ⟨am, e, S, rs, re, hσ, p⟩ => ⟨hσ, fun H' k => by
    obtain ⟨g, rs'⟩ := rs.wide k
    exact p am (.bl v) H' g rs' (.bl v)⟩
theorem call_isP {a D : Addr} {oe : Obj} (C : ExcC X.K D) (hp : (a, oe) ∈ X.pn) (hz : Zc (.ref D) none oe) (hf : ∃ vs, oe.data = .fields vs) : CallR X (.builtin "isinstance") (rIsE X.K D a) := by
  intro pins s σ H xs us Q I r h
  obtain ⟨c, cv, b, rfl, hcv, e, q⟩ := h
  cases r with
  | cons rx rr =>
    cases rr with
    | cons rt rr =>
      cases rr
      cases rx
      have ec := hcv _ rt
      subst ec
      obtain ⟨hget, _⟩ := I.pin (a, oe) (List.mem_append_left _ hp)
      obtain ⟨vs, hv⟩ := hf
      have J : PySem.W.InstAt s.heap a oe D none := by
        obtain ⟨oc, od, oda, osl⟩ := oe
        obtain ⟨h1, h2⟩ := hz
        dsimp only at h1 h2 hv
        subst h1 h2 hv
        exact ⟨hget, rfl, rfl, trivial⟩
      exact PySem.W.kia_one (PySem.W.handS_kitx_exc C.hg C.hk C.hs C.hd C.ha C.hn C.ht C.hm) I.kIn J e (fun z => nomatch z) fun tk => ⟨.bl b, H, I.kept (t' := tk) fun _ _ z => z, rfl, q⟩
/-- isinstance(e, (c, ..)) -/
def rIsT (K : PySem.W.Frag) (D a : Addr) : List V → Hp → VK → Prop := fun xs H Q => ∃ (p : Addr) (cs : List V) (cvs : List Value) (b : Bool), xs = [.ref a, .ref p] ∧ H p = some (.tup cs) ∧ (∀ us, Vals cs us → us = cvs) ∧ PySem.W.kitAny K (.ref D) cvs = some b ∧ Q (.bl b) H
theorem call_isT {a D : Addr} {oe : Obj} (C : ExcC X.K D) (hp : (a, oe) ∈ X.pn) (hz : Zc (.ref D) none oe) (hf : ∃ vs, oe.data = .fields vs) : CallR X (.builtin "isinstance") (rIsT X.K D a) := by
  intro pins s σ H xs us Q I r h
  obtain ⟨p, cs, cvs, b, rfl, hp2, hcv, e, q⟩ := h
  cases r with
  | cons rx rr =>
    cases rr with
    | cons rt rr =>
      cases rr
      cases rx
      cases rt
      obtain ⟨_, its, hvs, hit⟩ := I.hok p _ hp2
      have ec := hcv _ hvs
      subst ec
      obtain ⟨hget, _⟩ := I.pin (a, oe) (List.mem_append_left _ hp)
      obtain ⟨vs, hv⟩ := hf
      have J : PySem.W.InstAt s.heap a oe D none := by
        obtain ⟨oc, od, oda, osl⟩ := oe
        obtain ⟨h1, h2⟩ := hz
        dsimp only at h1 h2 hv
        subst h1 h2 hv
        exact ⟨hget, rfl, rfl, trivial⟩
      obtain ⟨o, ho, hc, n, hd⟩ := hit
      obtain ⟨oc, od, oda, osl⟩ := o
      dsimp only at hc hd
      subst hc hd
      exact PySem.W.kia_tup (PySem.W.handS_kitx_exc C.hg C.hk C.hs C.hd C.ha C.hn C.ht C.hm) I.kIn J ho e (fun z => nomatch z) fun tk => ⟨.bl b, H, I.kept (t' := tk) fun _ _ z => z, rfl, q⟩
end
section
variable {cl : Str → Addr} {X : Cx} {i : Nat} {a : Addr} {oe : Obj} {c x y : Str} {q p1 p2 pos : Pos} {b b1 b2 v : Bool}
theorem he_is (hz : L2N.Zn (.ref (cl c)) none oe) (hf : ∃ vs, oe.data = .fields vs) (hp : (a, oe) ∈ X.pn) (C : ExcC X.K (cl c)) (hgI : Gl X "isinstance") (hmI : X.mg "isinstance" = none) (he : PE X (.Name x p1) (tVar i)) (hgY : Gl X y) (EY : X.mg y = some (.ref (cl y))) (hk : PySem.W.kitOne X.K (.ref (cl c)) (.ref (cl y)) = some b) (hdb : (y == ("__debug__" : Str)) = false := by decide)
    (h0 : starEach [.Name x p1, .Name y p2] X.env = (false, eval (.Name x p1) X.env) :: starEach [.Name y p2] X.env := by rfl) (h1 : starEach [.Name y p2] X.env = (false, eval (.Name y p2) X.env) :: starEach [] X.env := by rfl) (hpl : (backTo pos (starEach [.Name y p2] X.env)).any (·.1) = false := by rfl) : HE X i a (.Call (.Name "isinstance" q) [.Name x p1, .Name y p2] [] pos) b :=
  (pe_callB (call_isP C hp hz.zc hf) hgI hmI (by decide +kernel) (pa_cons he (pa_cons (pe_glob (v := .ref (cl y)) hgY EY rfl hdb) pa_nil h1) h0) (by decide) (by decide) h0 hpl).imp fun σ H Q ⟨hσ, q⟩ => ⟨.ref a, hσ, .ref (cl y), .ref (cl y), b, rfl, fun u h => h, hk, q H fun _ _ z => z⟩
theorem he_isV (hz : L2N.Zn (.ref (cl c)) none oe) (hf : ∃ vs, oe.data = .fields vs) (hp : (a, oe) ∈ X.pn) (C : ExcC X.K (cl c)) (hgI : Gl X "isinstance") (hmI : X.mg "isinstance" = none) (he : PE X (.Name x p1) (tVar i)) (hgY : Gl X "ValueError") (hmY : X.mg "ValueError" = none) (hk : PySem.W.kitOne X.K (.ref (cl c)) (.type "ValueError") = some b)
    (h0 : starEach [.Name x p1, .Name "ValueError" p2] X.env = (false, eval (.Name x p1) X.env) :: starEach [.Name "ValueError" p2] X.env := by rfl) (h1 : starEach [.Name "ValueError" p2] X.env = (false, eval (.Name "ValueError" p2) X.env) :: starEach [] X.env := by rfl) (hpl : (backTo pos (starEach [.Name "ValueError" p2] X.env)).any (·.1) = false := by rfl) : HE X i a (.Call (.Name "isinstance" q) [.Name x p1, .Name "ValueError" p2] [] pos) b :=
  (pe_callB (call_isP C hp hz.zc hf) hgI hmI (by decide +kernel) (pa_cons he (pa_cons (pe_bltn (v := .ty "ValueError") hgY hmY (by decide +kernel) rfl) pa_nil h1) h0) (by decide) (by decide) h0 hpl).imp fun σ H Q ⟨hσ, q⟩ => ⟨.ref a, hσ, .ty "ValueError", .type "ValueError", b, rfl, fun u h => h, hk, q H fun _ _ z => z⟩
/-- names of own classes -/
def CA (cl : Str → Addr) (X : Cx) (es : List Expr) (ys : List Str) : Prop := PA X es (fun _ H Q => Q (ys.map fun y => V.ref (cl y)) H)
theorem ca_nil : CA cl X [] [] := pa_nil
theorem ca_cons {es : List Expr} {ys : List Str} (hgY : Gl X y) (EY : X.mg y = some (.ref (cl y))) (h : CA cl X es ys) (hdb : (y == ("__debug__" : Str)) = false := by decide) (hs : starEach (.Name y p1 :: es) X.env = (false, eval (.Name y p1) X.env) :: starEach es X.env := by rfl) : CA cl X (.Name y p1 :: es) (y :: ys) :=
  pa_cons (pe_glob (v := .ref (cl y)) hgY EY rfl hdb) h hs
theorem vals_ref : ∀ {as : List Addr} {us : List Value}, Vals (as.map V.ref) us → us = as.map Value.ref
  | [], _, .nil => rfl
  | _ :: _, _, .cons h t => by
    rw [show _ = _ from h, vals_ref t]
    rfl
theorem he_isT {n2 : Nat} {es : List Expr} {ys : List Str} (hz : L2N.Zn (.ref (cl c)) none oe) (hf : ∃ vs, oe.data = .fields vs) (hp : (a, oe) ∈ X.pn) (C : ExcC X.K (cl c)) (hgI : Gl X "isinstance") (hmI : X.mg "isinstance" = none) (he : PE X (.Name x p1) (tVar i)) (hca : CA cl X es ys) (hl : ys.length < 100) (hk : PySem.W.kitAny X.K (.ref (cl c)) ((ys.map cl).map Value.ref) = some b)
    (h0 : starEach [.Name x p1, .Tuple es n2 p2] X.env = (false, eval (.Name x p1) X.env) :: starEach [.Tuple es n2 p2] X.env := by rfl) (h1 : starEach [.Tuple es n2 p2] X.env = (false, eval (.Tuple es n2 p2) X.env) :: starEach [] X.env := by rfl) (hpl : (backTo pos (starEach [.Tuple es n2 p2] X.env)).any (·.1) = false := by rfl) : HE X i a (.Call (.Name "isinstance" q) [.Name x p1, .Tuple es n2 p2] [] pos) b :=
  (pe_callB (call_isT C hp hz.zc hf) hgI hmI (by decide +kernel) (pa_cons he (pa_cons (pe_tup hca) pa_nil h1) h0) (by decide) (by decide) h0 hpl).imp fun σ H Q ⟨hσ, q⟩ => ⟨.ref a, hσ, Nat.le_of_lt (sz (by rw [List.length_map]; omega)), fun p hp => ⟨p, ys.map fun y => V.ref (cl y), (ys.map cl).map Value.ref, b, rfl, upd_same, fun us h => vals_ref (as := ys.map cl) (by rw [List.map_map]; exact h), hk, q _ fun b o e => by
    rw [upd_ne (ne_of_none e hp)]
    exact e⟩⟩
theorem he_and {e1 e2 : Expr} {rest : List Expr} (ha : HE X i a e1 b1) (hb : HE X i a (.BoolOp .And (e2 :: rest) pos) b2) (hv : (b1 && b2) = v := by rfl) : HE X i a (.BoolOp .And (e1 :: e2 :: rest) pos) v := by
  subst hv
  exact (pe_and ha hb).imp fun σ H Q ⟨hσ, q⟩ => ⟨hσ, fun H1 k1 => ⟨b1, rfl, by
    cases b1 with
    | false => exact q H1 k1
    | true => exact ⟨hσ, fun H2 k2 => q H2 fun b o e => k2 b o (k1 b o e)⟩⟩⟩
theorem he_or {e1 e2 : Expr} {rest : List Expr} (ha : HE X i a e1 b1) (hb : HE X i a (.BoolOp .Or (e2 :: rest) pos) b2) (hv : (b1 || b2) = v := by rfl) : HE X i a (.BoolOp .Or (e1 :: e2 :: rest) pos) v := by
  subst hv
  exact (pe_or ha hb).imp fun σ H Q ⟨hσ, q⟩ => ⟨hσ, fun H1 k1 => ⟨b1, rfl, by
    cases b1 with
    | true => exact q H1 k1
    | false => exact ⟨hσ, fun H2 k2 => q H2 fun b o e => k2 b o (k1 b o e)⟩⟩⟩
theorem he_one {op} {e : Expr} (h : HE X i a e b) : HE X i a (.BoolOp op [e] pos) b := pe_one h
theorem he_not {e : Expr} (h : HE X i a e b) (hv : (!b) = v := by rfl) : HE X i a (.UnaryOp .Not e pos) v := by
  subst hv
  exact (pe_not h).imp fun σ H Q ⟨hσ, q⟩ => ⟨hσ, fun H1 k1 => ⟨b, rfl, q H1 k1⟩⟩
theorem he_bl {j} : HE X i a (.Constant (.bool b) j pos) b := (pe_bl).imp fun σ H Q ⟨hσ, q⟩ => q H fun _ _ z => z
def tHB (n i : Nat) (a : Addr) (v : Bool) : TS := fun D σ H => σ[i]? = some (some (.ref a)) ∧ σ.length = n ∧ ∀ H', (∀ b o, H b = some o → H' b = some o) → D.rt (.bl v) H'
abbrev HB (X : Cx) (i : Nat) (a : Addr) (st : List Stmt) (v : Bool) : Prop := PSs X st (tHB X.N.length i a v)
theorem hb_ret {e : Expr} (h : HE X i a e v) : HB X i a [.Return (some e) pos] v := pss_one ((ps_ret h).imp fun D σ H ⟨hσ, _, q⟩ => ⟨hσ, q⟩)
theorem hb_if {t : Expr} {body rest : List Stmt} {vb vr : Bool} (ht : HE X i a t b) (h1 : HB X i a body vb) (h2 : HB X i a rest vr) (hv : (if b = true then vb else vr) = v := by rfl) (he : ∀ whole, isTrue t X.env whole = (do let v ← whole; standAt t.pos; holding [v] (truthy v)) := by intro _; rfl) : HB X i a (.If t body [] pos :: rest) v := by
  subst hv
  exact (pss_cons (ps_if (pt_val ht he) h1 pss_nil) h2).imp fun D σ H ⟨hσ, hn, q⟩ => ⟨hσ, fun H1 k1 => ⟨b, rfl, by
    cases b with
    | true => exact ⟨hσ, hn, fun H2 k2 => q H2 fun b o e => k2 b o (k1 b o e)⟩
    | false => exact ⟨hσ, hn, fun H2 k2 => q H2 fun b o e => k2 b o (k1 b o e)⟩⟩⟩
end
structure FnE (P : Program) (w : World) (K : PySem.W.Frag) (mg : Str → Option Value) (base : Heap) (k : Nat) (f : Addr) (fd : FuncData) (ps : List Str) (cl : Str → Addr) (c : Str) (v : Bool) : Prop where
  run : ∀ (A : Around) (outer : List PySem.Env) (s : Shared) (H : Hp) (args : Args) (us : List Value) (Q : VK) (E : XK) (p : Addr × Obj), L2H.RoomH k A → L2H.Hot1 A p → L2H.PinOk outer H s p → Env0 P w K mg base A outer s H → BindsTo s fd args (ps.zip us) → Vals [.ref p.1] us → L2N.Zn (.ref (cl c)) none p.2 →
    (∀ H', (∀ b o, H b = some o → H' b = some o) → Q (.bl v) H') → codeAny (model P w) A (.call (.ref f) args) (CR (L2N.CX P w) outer P w H s Q E) s
structure DefE (P : Program) (w : World) (K : PySem.W.Frag) (mg : Str → Option Value) (base : Heap) (cl : Str → Addr) (x : Str) (k : Nat) (ps : List Str) (c : Str) (v : Bool) : Prop where
  ex : ∃ f fd, FnE P w K mg base k f fd ps cl c v ∧ mg x = some (.ref f) ∧ PySem.W.keepIn K (.ref f) = true ∧ ∀ us : List Value, us.length = ps.length → bindArgs fd ⟨us, []⟩ = pure (ps.zip us)
section
variable {P : Program} {w : World} {K : PySem.W.Frag} {mg : Str → Option Value} {base : Heap} {cl : Str → Addr}
theorem DefE.mono {x : Str} {k j : Nat} {ps : List Str} {c : Str} {v : Bool} (d : DefE P w K mg base cl x k ps c v) (h : k ≤ j) : DefE P w K mg base cl x j ps c v :=
  let ⟨f, fd, a, b⟩ := d.ex
  ⟨f, fd, ⟨fun A outer s H args us Q E p hr => a.run A outer s H args us Q E p (hr.mono h)⟩, b⟩
theorem defE_ok {k : Nat} {N : List Str} {p0 : Str} {st : Stmt} {x c : Str} {v : Bool} (I : DefIn K mg x st [p0]) (Sc : FnScope N [p0] (defScope st))
    (hb : ∀ (f : Addr) (cdv : Value) (A : Around) (outer : List PySem.Env) (s : Shared) (H : Hp) (E : XK) (a : Addr) (oe : Obj), L2N.Zn (.ref (cl c)) none oe → (∃ vs, oe.data = .fields vs) → A.handled = some (.ref a) → L2H.RoomH k (A.deeper (envOfC x (defScope st) s.heap.objs.size f cdv)) →
      HB (L2H.cxH (L2N.CX P w) P w K mg base N x (defScope st) f cdv A outer s H E (a, oe)) 0 a (defBody st) v) :
    DefE P w K mg base cl x (k + 1) [p0] c v := by
  obtain ⟨f, fd, Fn, hm, hbd⟩ := I.ex
  have Fn2 := Fn
  obtain ⟨oc, od, kV, doc, pm, an, cdv, ct, osl, rfl, lk, hcd⟩ := Fn.ex
  refine ⟨f, _, ⟨fun A outer s H args us Q E p hr hot hpin e0 hbi r hz hq => ?_⟩, hm, Fn2.kp, hbd⟩
  have hl : [V.ref p.1].length = [p0].length := rfl
  have KX : K.In s.heap := e0.mod.kin.keeps fun b o e => (e0.bs b o e).1
  have lim : s.heap.NoLimit := e0.mod.nolimit.keeps fun b o e => (e0.bs b o e).1
  have hkind : ∀ y ∈ [p0].zip us, (defScope st).names.lookup y.1 = some .local ∨ ((defScope st).names.lookup y.1 = some .cell ∧ ((cellsFrom (s.heap.objs.size + 1) (defScope st).names []).lookup y.1).isSome = true) := fun ⟨n, v⟩ hy => by
    rcases Sc.par n (List.of_mem_zip hy).1 with q | q
    · exact .inl q
    · exact .inr ⟨q, PySem.W.cellsFrom_some _ _ _ (.inl q)⟩
  refine codeAny_call_function hr.depth (KX _ _ lk) rfl Sc.co Sc.gen rfl (PySem.W.codeRec_of KX hcd) (hbi _ _ _ _ ?_)
  refine wpAny_newFunctionEnv_cells Sc.kind hkind fun env he s1 x1 => ?_
  subst he
  refine ⟨lim.keeps x1.toInCall.keep, codeAny_func ?_⟩
  obtain ⟨hh, vs, hd, _⟩ := hot
  have ht := hb f cdv A outer s H E p.1 p.2 hz ⟨vs, hd⟩ hh (hr.deeper _)
  have I1 : Inv (L2H.cxH (L2N.CX P w) P w K mg base N x (defScope st) f cdv A outer s H E p) [] (L2.start N [.ref p.1]) H s1 := L2H.inv_startH Sc hpin e0 hl r x1
  have h0 : (L2.start N [V.ref p.1])[0]? = some (some (V.ref p.1)) := rfl
  have hn0 : (L2.start N [V.ref p.1]).length = N.length := by
    have hpl : [p0].length ≤ N.length := by
      have := congrArg List.length Sc.pre
      rw [List.length_take] at this
      omega
    unfold L2.start
    rw [List.length_append, List.length_map, List.length_replicate]
    simp only [List.length_cons, List.length_nil] at hpl ⊢
    omega
  refine wpAny_mono (ht.run [] s1 (L2.start N [.ref p.1]) H { nx := fun _ H' => Q .non H', rt := Q } I1 ⟨h0, hn0, hq⟩) (fun fl s' hs => ?_) fun e s' hs => hs
  have fin : ∀ {σ' : L2.St} {H' : Hp} {v : V} {u : Value}, Inv (L2H.cxH (L2N.CX P w) P w K mg base N x (defScope st) f cdv A outer s H E p) [] σ' H' s' → RelV v u → Q v H' → CE outer P w H s Q u s' :=
    fun {σ' H' v u} J rv q => ⟨v, H', J.os, J.bare, J.base, J.hok, rv, q⟩
  cases fl with
  | ret u =>
    obtain ⟨v, σ', H', J, rv, q⟩ := hs
    exact fin J rv q
  | next =>
    obtain ⟨σ', H', J, q⟩ := hs
    exact fin (v := V.non) (u := Value.none) J rfl q
  | brk =>
    obtain ⟨_, _, _, q⟩ := hs
    exact False.elim q
  | cont =>
    obtain ⟨_, _, _, q⟩ := hs
    exact False.elim q
end
section
variable {cl : Str → Addr} {X : Cx} {i k : Nat} {a : Addr} {oe : Obj} {c x y n : Str} {q p1 pos : Pos} {v : Bool} {ps : List Str}
theorem he_fn (hz : L2N.Zn (.ref (cl c)) none oe) (hf : ∃ vs, oe.data = .fields vs) (hp : (a, oe) ∈ X.pn) (hh : X.A.handled = some (.ref a)) (G : DefE X.prog X.w X.K X.mg X.base cl x k ps c v) (hps : ps.length = 1) (hr : L2H.RoomH k X.A) (hg : Gl X x) (he : PE X (.Name n p1) (tVar i)) (hdb : (x == ("__debug__" : Str)) = false := by decide)
    (h0 : starEach [.Name n p1] X.env = (false, eval (.Name n p1) X.env) :: starEach [] X.env := by rfl) (hpl : (backTo pos (starEach [] X.env)).any (·.1) = false := by rfl) : HE X i a (.Call (.Name x q) [.Name n p1] [] pos) v := by
  obtain ⟨f, fd, F, hm, hk, hbd⟩ := G.ex
  refine ⟨fun pins s σ H Q I h => ?_⟩
  obtain ⟨hσ, hq⟩ := h
  refine wpAny_Call_Name_kw (ld_glob I hg hm ?_ hdb)
  have ha : PA X [.Name n p1] (tCons (tVar i) tNil) := pa_cons he pa_nil h0
  refine PySem.W.callWith_K (h₀ := X.base) I.ok.mod.kin hk (thn (ha.run pos pins s σ H (fun vs H1 => vs = [V.ref a] ∧ H = H1) I ⟨_, hσ, rfl, rfl⟩) fun us s1 ⟨vs, H1, I1, r, ev, eH⟩ => ⟨I1.kIn, ?_⟩) h0 hpl
  subst ev eH
  have P1 := I1.pin (a, oe) (List.mem_append_left _ hp)
  have hpin : L2H.PinOk X.stack H s1 (a, oe) := ⟨P1.1, P1.2.1, fun hm => (List.mem_cons.mp (I1.stkSub a hm)).elim P1.2.2.1 P1.2.2.2.1, P1.2.2.2.2⟩
  obtain ⟨vs, hd⟩ := hf
  have hot : L2H.Hot1 X.A (a, oe) := ⟨hh, vs, hd, hz.2.2 vs hd⟩
  have hul : us.length = ps.length := by rw [← r.length, hps]; rfl
  have b : BindsTo s1 fd ⟨us, []⟩ (ps.zip us) := .of_eq (hbd us hul)
  refine wpAny_call (codeAny_mono (F.run X.A X.stack s1 H ⟨us, []⟩ us Q (fun _ _ _ => False) (a, oe) hr hot hpin I1.env0 b r hz hq) fun r2 s' hq2 => ?_)
  cases r2 with
  | error e => exact (cx_no hq2).elim
  | ok fl =>
    cases fl with
    | ret u => exact I1.after hq2
    | next => exact False.elim hq2
    | brk => exact False.elim hq2
    | cont => exact False.elim hq2
theorem kc_nil {P : Str × Bool → Prop} : ∀ p ∈ ([] : List (Str × Bool)), P p := fun p h => absurd h List.not_mem_nil
theorem kc_cons {P : Str × Bool → Prop} {q : Str × Bool} {l : List (Str × Bool)} (h : P q) (t : ∀ p ∈ l, P p) : ∀ p ∈ q :: l, P p := fun p hp => by
  rcases List.mem_cons.mp hp with e | e
  · rw [e]; exact h
  · exact t p e
theorem ka_nil {K : PySem.W.Frag} {t : Value} : PySem.W.kitAny K t [] = some false := rfl
theorem ka_no {K : PySem.W.Frag} {t c : Value} {r : List Value} {b : Bool} (h : PySem.W.kitOne K t c = some false) (g : PySem.W.kitAny K t r = some b) : PySem.W.kitAny K t (c :: r) = some b := by
  unfold PySem.W.kitAny
  rw [h]
  exact g
theorem ka_yes {K : PySem.W.Frag} {t c : Value} {r : List Value} (h : PySem.W.kitOne K t c = some true) : PySem.W.kitAny K t (c :: r) = some true := by
  unfold PySem.W.kitAny
  rw [h]
theorem kit_ref {K : PySem.W.Frag} {C c : Addr} {b : Bool} (hd : PySem.W.hasDictIn K C = true) (ht : PySem.W.typeIn K (.ref C) = some (.type "type")) (h : PySem.W.subIn K (.ref c) (.ref C) = some b) (hn : b = false → c ≠ C) : PySem.W.kitOne K (.ref c) (.ref C) = some b := by
  have e : PySem.W.kitCls K (.ref c) (.ref C) = some b := by
    obtain ⟨cd, hc, _⟩ := PySem.W.any_some hd
    show (if ((PySem.W.clsIn K C).isSome && PySem.W.typeIn K (.ref C) == some (.type "type")) = true then PySem.W.subIn K (.ref c) (.ref C) else none) = some b
    rw [hc, ht, if_pos (by rfl)]
    exact h
  unfold PySem.W.kitOne
  split
  · rename_i z
    cases b with
    | true => rfl
    | false => exact absurd (Value.ref.inj (beq_iff_eq.mp z)) (hn rfl)
  · exact e
theorem kit_ty {K : PySem.W.Frag} {T : String} {t : Value} (hm : PySem.W.kitMeta T = true) (h : PySem.W.subIn K t (.type T) = some true) : PySem.W.kitOne K t (.type T) = some true := by
  unfold PySem.W.kitOne
  split
  · rfl
  · show (if PySem.W.kitMeta T = true then PySem.W.subIn K t (.type T) else none) = some true
    rw [if_pos hm]
    exact h
def hdOf (l : List (Str × Stm)) (y : Str) : Stm := (l.lookup y).getD fun _ _ => .bad
abbrev SpE (K : PySem.W.Frag) (n : Nat) (F : List D → Sto → Res D) : Sp := SpD K (clK K) n F
theorem roomH_mark {A : Around} {v : Option Value} {k : Nat} (r : Room k A) : L2H.RoomH k (A.mark v) := ⟨r.dp, r.un⟩
end
end Pu
set_option Elab.async false
set_option linter.all false
set_option maxRecDepth 100000
set_option maxHeartbeats 2000000
namespace PySem
open PySem.Calls HotX
section
variable {prog : Program} {w : World} {A : Around} {E : Value → Shared → Prop} {s : Shared}
theorem pyNext_list_end_hotP {it l x1 : Addr} {i : Nat} {items : Array Value} {Q : Option Value → Shared → Prop} (hot : HotAt A x1 s.heap) (hne : x1 ≠ it)
    (hit : s.heap.IsListIter it l i) (hl : s.heap.IsList l items) (hx : items[i]? = none)
    (hQ : ∀ h', Heap.ExtBut it s.heap h' → Q none { s with heap := h' }) : wpAny (model prog w) A (pyNext (.ref it)) Q E s := by
  obtain ⟨o, ho, hc, hd⟩ := id hit
  obtain ⟨ol, hol, _, nl, hdl⟩ := hl
  obtain ⟨hh, o1, vs1, h1, d1, c1⟩ := hot
  unfold pyNext
  refine wpAny_bind (wpAny_attempt (wpAny_callSpecial?_slot (name := Str.ofString "__next__") hit.typeIs slot_listiter_next
    (wpAny_call_entry slot_listiter_next hit.typeIs entry_listiter_next ?_ (args_listiter_next _))))
  show wpAny _ _ (field (.ref it) 0 >>= _) _ _ s
  refine wpAny_bind (wpAny_field ho hd (x := .ref l) rfl ?_)
  show wpAny _ _ (if (Value.ref l == Value.none) = true then _ else _) _ _ s
  rw [if_neg (show ¬ ((Value.ref l == Value.none) = true) from Bool.false_ne_true)]
  show wpAny _ _ (field (.ref it) 1 >>= _) _ _ s
  refine wpAny_bind (wpAny_field ho hd (x := .int i 0) rfl ?_)
  show wpAny _ _ (seqItems? (.ref l) >>= _) _ _ s
  refine wpAny_bind (wpAny_seqItems hol hdl ?_)
  simp only [Int.toNat_natCast, hx]
  refine wpAny_bind (wpAny_rule (wpAny_bind (wpAny_setField ho hd (by simp) ?_)))
  have h2 : (s.heap.update it (Obj.mapFields (·.setIfInBounds 0 Value.none))).get? x1 = some o1 := (Heap.get?_update_other _ _ (Ne.symm hne)).trans h1
  show wpAny _ _ (newExc (.type "StopIteration") [] >>= _) _ _ _
  refine wpAny_bind ?_
  simp only [newExc, newTuple]
  refine wpAny_bind (wpAny_newObj_type ?_ (by size_fits))
  refine wpAny_bind (m := firstArgMember _ _) (wpAny_of_eq (a := Value.none) (by first | rfl | (simp only [firstArgMember]; rfl)) ?_)
  refine wpAny_newObj_type ?_ (by size_fits)
  refine raiseNew_hot ⟨hh, o1, vs1, Heap.get?_push_of_some _ (Heap.get?_push_of_some _ h2), d1, c1⟩ (Nat.ne_of_lt (Heap.lt_size (Heap.get?_push_of_some _ h2))) (Heap.get?_push_size _ rfl) rfl (by first | (simp; done) | (simp; omega) | (simp only [Array.size_append]; simp; omega)) ?_
  refine wpAny_bind (wpAny_isInstance (T := "StopIteration") (b := true) ⟨_, Heap.get?_update_self _ (Heap.get?_push_size _ rfl) rfl, rfl⟩ isSubtype_stop ?_)
  refine wpAny_pure (hQ _ fun b o hb e => ?_)
  have e2 : (s.heap.update it (Obj.mapFields (·.setIfInBounds 0 Value.none))).get? b = some o := (Heap.get?_update_other _ _ (Ne.symm hb)).trans e
  rw [Heap.get?_update_other _ _ (Nat.ne_of_gt (Heap.lt_size (Heap.get?_push_of_some _ e2)))]
  exact Heap.get?_push_of_some _ (Heap.get?_push_of_some _ e2)
theorem walks_list_hotP {x1 : Addr} (hh : A.handled = some (.ref x1)) (I ax : Addr) (hne : ax ≠ I) (hx1 : x1 ≠ I) (items : Array Value) :
    Walks prog w A I [I, ax, x1] [I] items.size (fun i v => items[i]? = some v) (fun i h => (h.IsListIter I ax i ∧ h.IsList ax items) ∧ ∃ (o : Obj) (vs : Array Value), h.get? x1 = some o ∧ o.data = .fields vs ∧ vs[2]? = some .none) where
  sub := fun b hb => by simp at hb; simp [hb]
  frame := fun _ _ _ st hk => ⟨⟨st.1.1.at fun o e => hk I (by simp) o e, st.1.2.at fun o e => hk ax (by simp) o e⟩, by
    obtain ⟨o, vs, a, b, c⟩ := st.2
    exact ⟨o, vs, hk x1 (by simp) o a, b, c⟩⟩
  item := fun i s Q E hi st hQ => by
    refine wpAny_pyNext_list_item st.1.1 st.1.2 (x := items[i]) (by simp [hi]) fun h' hit' hs' => ?_
    obtain ⟨o, vs, a, b, c⟩ := st.2
    exact hQ _ h' s.toks (by simp [hi]) ⟨⟨hit', st.1.2.extBut hs'.extBut hne⟩, o, vs, hs'.extBut x1 o hx1 a, b, c⟩ fun b o hb e => hs'.extBut b o (fun h => hb (by simp [h])) e
  done := fun s Q E st hQ => pyNext_list_end_hotP ⟨hh, st.2⟩ hx1 st.1.1 st.1.2 (by simp) fun h' he' => hQ h' s.toks fun b o hb e => he' b o (fun h => hb (by simp [h])) e
  self := fun _ _ _ _ st hQ => wpAny_pyIter_listiter st.1.1 hQ
end
end PySem
namespace Pu
open PySem PySem.Spec PyProof.Rows L2
section
variable {X : Cx} {a : Addr} {oe : Obj}
theorem cr_anyH (hp : (a, oe) ∈ X.pn) (hh : X.A.handled = some (.ref a)) (hf : ∃ vs : Array Value, oe.data = .fields vs ∧ vs[2]? = some .none) : CallR X (.builtin "any") (rAny X.K) := by
  intro pins s σ H vs us Q I r h
  obtain ⟨l, bs, rfl, hs, q⟩ := h
  obtain ⟨its, rv, hl, _⟩ := I.list hs
  rw [Vals.ref1 r]
  have hb := rv.bls
  obtain ⟨hget, _⟩ := I.pin (a, oe) (List.mem_append_left _ hp)
  obtain ⟨vs, hd, h2⟩ := hf
  have hax : a ≠ s.heap.objs.size := Nat.ne_of_lt (Heap.lt_size hget)
  refine call_any_walk (iter_any hl.isList fun s₂ e2 st hne => ?_)
  subst e2
  refine ⟨_, _, _, _, _, _, _, rfl, walks_list_hotP (A := X.A.in1) (x1 := a) hh _ l hne hax its.toArray, ⟨st, oe, vs, Heap.get?_push_of_some _ hget, hd, h2⟩, truth_bools hb, fun h' tk hk => ?_⟩
  refine ⟨.bl _, H, I.kept fun b o eo => hk b o (fun hmem => ?_) (Heap.get?_push_of_some _ eo), ?_, q⟩
  · rcases List.mem_cons.mp hmem with e1 | hmem
    · exact absurd (e1 ▸ Heap.lt_size eo) (Nat.lt_irrefl _)
    · cases hmem
  · show Value.bool _ = Value.bool _
    rw [← L2.any_range, hb, List.size_toArray, List.length_map]
end
def tHE2 (i : Nat) (a : Addr) (j : Nat) (bs : List Bool) (v : Bool) : TE := fun σ H Q => σ[i]? = some (some (.ref a)) ∧ (∃ q, σ[j]? = some (some (.ref q)) ∧ H q = some (.lst (bs.map V.bl))) ∧ ∀ H', (∀ b o, H b = some o → H' b = some o) → Q (.bl v) H'
abbrev HE2 (X : Cx) (i : Nat) (a : Addr) (j : Nat) (bs : List Bool) (ex : Expr) (v : Bool) : Prop := PE X ex (tHE2 i a j bs v)
/-- truths of tests, one behind the other -/
def LHE (X : Cx) (i : Nat) (a : Addr) (es : List Expr) (bs : List Bool) : Prop := PA X es (fun σ H Q => σ[i]? = some (some (.ref a)) ∧ ∀ H', (∀ b o, H b = some o → H' b = some o) → Q (bs.map V.bl) H')
section
variable {cl : Str → Addr} {X : Cx} {i j n : Nat} {a : Addr} {oe : Obj} {c x y : Str} {q p1 p2 pos : Pos} {b b1 b2 v : Bool} {bs cs : List Bool} {e : Expr} {es : List Expr} {rest : List Stmt}
theorem lhe_nil : LHE X i a [] [] := pa_nil.imp fun σ H Q ⟨_, q⟩ => q H fun _ _ z => z
theorem lhe_cons (h : HE X i a e b) (t : LHE X i a es bs) (hs : starEach (e :: es) X.env = (false, eval e X.env) :: starEach es X.env := by rfl) : LHE X i a (e :: es) (b :: bs) :=
  (pa_cons h t hs).imp fun σ H Q ⟨hσ, q⟩ => ⟨hσ, fun H1 k1 => ⟨hσ, fun H2 k2 => q H2 fun b o z => k2 b o (k1 b o z)⟩⟩
theorem he2_of (h : HE X i a e v) : HE2 X i a j bs e v := h.imp fun σ H Q ⟨hσ, _, q⟩ => ⟨hσ, q⟩
theorem he2_and {f : Expr} {fs : List Expr} (ha : HE2 X i a j bs e b1) (hb : HE2 X i a j bs (.BoolOp .And (f :: fs) pos) b2) (hv : (b1 && b2) = v := by rfl) : HE2 X i a j bs (.BoolOp .And (e :: f :: fs) pos) v := by
  subst hv
  exact (pe_and ha hb).imp fun σ H Q ⟨hσ, hl, q⟩ => ⟨hσ, hl, fun H1 k1 => ⟨b1, rfl, by
    cases b1 with
    | false => exact q H1 k1
    | true =>
      obtain ⟨l, h1, h2⟩ := hl
      exact ⟨hσ, ⟨l, h1, k1 _ _ h2⟩, fun H2 k2 => q H2 fun b o z => k2 b o (k1 b o z)⟩⟩⟩
theorem he2_one {op} (h : HE2 X i a j bs e b) : HE2 X i a j bs (.BoolOp op [e] pos) b := pe_one h
theorem he2_not (h : HE2 X i a j bs e b) (hv : (!b) = v := by rfl) : HE2 X i a j bs (.UnaryOp .Not e pos) v := by
  subst hv
  exact (pe_not h).imp fun σ H Q ⟨hσ, hl, q⟩ => ⟨hσ, hl, fun H1 k1 => ⟨b, rfl, q H1 k1⟩⟩
theorem he2_any (hz : L2N.Zn (.ref (cl c)) none oe) (hf : ∃ vs, oe.data = .fields vs) (hp : (a, oe) ∈ X.pn) (hh : X.A.handled = some (.ref a)) (hgA : Gl X "any") (hmA : X.mg "any" = none) (he : PE X (.Name x p1) (tVar j)) (hv : bs.any id = v := by rfl)
    (h0 : starEach [.Name x p1] X.env = (false, eval (.Name x p1) X.env) :: starEach [] X.env := by rfl) (hpl : (backTo pos (starEach [] X.env)).any (·.1) = false := by rfl) : HE2 X i a j bs (.Call (.Name "any" q) [.Name x p1] [] pos) v := by
  subst hv
  obtain ⟨vs, hd⟩ := hf
  exact (pe_callB (cr_anyH hp hh ⟨vs, hd, hz.2.2 vs hd⟩) hgA hmA (by decide +kernel) (pa_cons he pa_nil h0) (by decide) (by decide) h0 hpl).imp fun σ H Q ⟨hσ, ⟨l, h1, h2⟩, q⟩ => ⟨.ref l, h1, l, bs, rfl, SqL.of h2, q H fun _ _ z => z⟩
def tHL (i : Nat) (a : Addr) (j : Nat) (bs : List Bool) (v : Bool) : TS := fun D σ H => σ[i]? = some (some (.ref a)) ∧ ∃ q, σ[j]? = some (some (.ref q)) ∧ H q = some (.lst (bs.map V.bl)) ∧ ∀ H', (∀ b o, b ≠ q → H b = some o → H' b = some o) → D.rt (.bl v) H'
abbrev HL (X : Cx) (i : Nat) (a : Addr) (j : Nat) (bs : List Bool) (st : List Stmt) (v : Bool) : Prop := PSs X st (tHL i a j bs v)
theorem hl_ret (h : HE2 X i a j bs e v) : HL X i a j bs [.Return (some e) pos] v := pss_one ((ps_ret h).imp fun D σ H ⟨hσ, l, h1, h2, q⟩ => ⟨hσ, ⟨l, h1, h2⟩, fun H' k => q H' fun b o _ z => k b o z⟩)
theorem hl_cat {x : Str} {p3 p4 : Pos} (hN : X.N.Nodup) (hi : X.N[j]? = some x) (hx : Loc X.env.scope x) (hij : i ≠ j) (hv : PE X (.Name x p1) (tVar j)) (h : LHE X i a es cs) (t : HL X i a j (bs ++ cs) rest v) (hl : (bs ++ cs).length < 100 := by decide)
    (hs : swapsWith (.BinOp (.Name x p1) .Add (.List es p2) p3) (some (.Name x p4)) pos.line X.env = pure false := by rfl) (hf : X.fn x = true ∨ X.env.scope.names.lookup x = some .local := by first | exact .inl rfl | exact .inr rfl | assumption) :
    HL X i a j bs (.Assign [.Name x p4] (.BinOp (.Name x p1) .Add (.List es p2) p3) pos :: rest) v :=
  (pss_cons (ps_set hN hi hx (pe_op op_cat hv (pe_lst h)) hs hf) t).imp fun D σ H ⟨hσ, l, h1, h2, q⟩ => ⟨.ref l, h1, hσ, fun H1 k1 => ⟨Nat.le_of_lt (sz (by rw [List.length_map]; rw [List.length_append] at hl; omega)), fun p hp => by
    have hlp : l ≠ p := ne_of_none (k1 _ _ h2) hp
    refine ⟨l, p, bs.map V.bl, cs.map V.bl, rfl, rfl, by rw [upd_ne hlp]; exact k1 _ _ h2, upd_same, Nat.le_of_lt (sz (by rw [List.length_map, List.length_map]; rw [List.length_append] at hl; omega)), fun p5 hp5 => ?_⟩
    have hjl : j < σ.length := (List.getElem?_eq_some_iff.mp h1).1
    refine ⟨by show (σ.set j _)[i]? = _; rw [List.getElem?_set_ne (Ne.symm hij)]; exact hσ, p5, by show (σ.set j _)[j]? = _; rw [List.getElem?_set_self hjl], by rw [upd_same, List.map_append], fun H' k => q H' fun b o hb z => ?_⟩
    have z1 := k1 b o z
    have bp : b ≠ p := ne_of_none z1 hp
    have z2 : upd H1 p (.lst (cs.map V.bl)) b = some o := by rw [upd_ne bp]; exact z1
    have bp5 : b ≠ p5 := ne_of_none z2 hp5
    exact k b o bp5 (by rw [upd_ne bp5]; exact z2)⟩⟩
theorem hl_app {x : Str} {apos : Pos} (hv : PE X (.Name x p1) (tVar j)) (h : HE X i a e b) (t : HL X i a j (bs ++ [b]) rest v) (hl : bs.length < 100 := by decide)
    (h0 : starEach [e] X.env = (false, eval e X.env) :: starEach [] X.env := by rfl) (hbase : attributeBase (.Name x p1) "append" X.env (eval (.Name x p1) X.env) = eval (.Name x p1) X.env := by rfl)
    (hfew : ((backTo q (starEach [e] X.env)).all (fun x => !x.1) && (backToKw q (keywordEach [] X.env)).all (fun x => x.1.isSome)
      && decide ([e].length + ([] : List Keyword).length + (if ([] : List Keyword).isEmpty then 0 else 1) < 30)) = true := by rfl)
    (hline : (apos.endLine == q.line) = true := by rfl) (hplain : (backTo q (starEach [] X.env)).any (·.1) = false := by rfl)
    (hs : swapsWith (.Call (.Attribute (.Name x p1) "append" apos) [e] [] q) none pos.line X.env = pure false := by rfl) :
    HL X i a j bs (.Expr (.Call (.Attribute (.Name x p1) "append" apos) [e] [] q) pos :: rest) v :=
  (pss_cons (ps_expr (pe_bm PySem.F.plainAttrs_list PySem.F.slot_list_append PySem.F.type_list_append mt_append hv (pa_cons h pa_nil h0) hbase hfew hline h0 hplain) hs) t).imp fun D σ H ⟨hσ, l, h1, h2, q⟩ =>
    ⟨.ref l, h1, .inl ⟨rfl, _, .of h2⟩, hσ, fun H1 k1 => ⟨l, bs.map V.bl, .bl b, rfl, rfl, k1 _ _ h2, sz (by rw [List.length_map]; omega), hσ, l, h1, by rw [upd_same, List.map_append]; rfl, fun H' k => q H' fun c o hc z => k c o hc (by rw [upd_ne hc]; exact k1 c o z)⟩⟩
/-- the first list; n: how many slots there are -/
theorem hb_lst {x : Str} {p4 : Pos} (hN : X.N.Nodup) (hi : X.N[j]? = some x) (hx : Loc X.env.scope x) (hij : i ≠ j) (h : LHE X i a es bs) (t : HL X i a j bs rest v) (hl : bs.length < 100 := by decide)
    (hs : swapsWith (.List es p2) (some (.Name x p4)) pos.line X.env = pure false := by rfl) (hf : X.fn x = true ∨ X.env.scope.names.lookup x = some .local := by first | exact .inl rfl | exact .inr rfl | assumption) :
    HB X i a (.Assign [.Name x p4] (.List es p2) pos :: rest) v :=
  (pss_cons (ps_set hN hi hx (pe_lst h) hs hf) t).imp fun D σ H ⟨hσ, hσl, q⟩ => ⟨hσ, fun H1 k1 => ⟨Nat.le_of_lt (sz (by rw [List.length_map]; omega)), fun p hp => by
    have hjl : j < σ.length := by rw [hσl]; exact (List.getElem?_eq_some_iff.mp hi).1
    refine ⟨by show (σ.set j _)[i]? = _; rw [List.getElem?_set_ne (Ne.symm hij)]; exact hσ, p, by show (σ.set j _)[j]? = _; rw [List.getElem?_set_self hjl], upd_same, fun H' k => q H' fun b o z => ?_⟩
    have z1 := k1 b o z
    have bp : b ≠ p := ne_of_none z1 hp
    exact k b o bp (by rw [upd_ne bp]; exact z1)⟩⟩
end
end Pu
set_option Elab.async false
set_option linter.all false
set_option maxRecDepth 100000
namespace Pu
open PySem PySem.Spec PyProof.Rows L2
section
variable {X : Cx}
def rSumT (K : PySem.W.Frag) : List V → Hp → VK → Prop := fun vs H Q => ∃ (a : Addr) (ns : List Int), vs = [V.ref a] ∧ SqT K H a (ns.map V.int) ∧ Q (.int ns.sum) H
theorem cr_sumT (hc : X.calm = true) : CallR X (.builtin "sum") (rSumT X.K) := by
  intro pins s σ H vs us Q I r h
  obtain ⟨a, ns, rfl, hs, q⟩ := h
  obtain ⟨its, rv, hl, _⟩ := I.tuple hs
  rw [Vals.ref1 r]
  have hi := rv.ints
  obtain ⟨xs, ex⟩ := hi.allInts.items
  have hn : numsOf (intItems xs).toList = ns := by
    have z := hi.numsOf
    rw [← ex]
    exact z
  rw [nums_intItems] at hn
  have hT : s.heap.IsTuple a (intItems xs) := by
    rw [← ex]
    exact hl
  have hlt : a < s.heap.objs.size := hl.lt
  refine call_sum_walkG (wpAny_pyIter_tuple hT ?_)
  refine ⟨_, _, _, _, _, _, numAt xs, rfl, Walks.tuple (A := X.A.in1) (I.ok.hd hc) s.heap.objs.size a (Nat.ne_of_lt hlt) (intItems xs), ⟨⟨_, Heap.get?_push_size _ rfl, rfl, rfl⟩, hT.push _⟩, fun b hb => ?_, fun i v hv => intItems_at hv, fun h' tk t' hk => ?_⟩
  · show b < (s.heap.push _).objs.size
    rw [Heap.size_push]
    simp only [List.mem_cons, List.not_mem_nil, or_false] at hb
    rcases hb with e | e <;> subst e
    · exact Nat.lt_succ_self _
    · exact Nat.lt_succ_of_lt hlt
  · have e : preSum (numAt xs) (intItems xs).size = ns.sum := by
      rw [preSum_eq, List.take_of_length_le (by simp [intItems]), hn]
    rw [e]
    refine ⟨.int _, H, I.kept (t' := tk) fun b o e => hk b o (fun hm => ?_) (Heap.get?_push_of_some _ e), ⟨_, rfl⟩, q⟩
    exact absurd (Heap.lt_size e) ((List.mem_singleton.mp hm) ▸ Nat.lt_irrefl _)
end
def smB (ds : List D) (S : Sto) : Res D := match ds with
  | [d] => match (sqOf S d).bind intsL with
    | some ns => .ok (.int ns.sum) S
    | none => .bad
  | _ => .bad
theorem smB_map {ns : List Int} {S : Sto} : smB [.lst (ns.map D.int)] S = .ok (.int ns.sum) S := by
  simp only [smB, sqOf_lst, Option.bind_some, intsL_map]
theorem smB_tup {ns : List Int} {S : Sto} : smB [.tup (ns.map D.int)] S = .ok (.int ns.sum) S := by
  simp only [smB, sqOf_tup, Option.bind_some, intsL_map]
/-- xs.index(i) -/
def idxI : List Int → Int → Option Nat
  | [], _ => none
  | x :: xs, i => if x = i then some 0 else (idxI xs i).map (· + 1)
theorem idxI_ok : ∀ {xs : List Int} {i : Int} {j : Nat}, idxI xs i = some j → xs[j]? = some i ∧ ∀ m z, m < j → xs[m]? = some z → z ≠ i
  | [], _, _, h => by cases h
  | x :: xs, i, j, h => by
    unfold idxI at h
    by_cases e : x = i
    · rw [if_pos e] at h
      cases h
      exact ⟨by rw [e]; rfl, fun m z hm => absurd hm (Nat.not_lt_zero _)⟩
    · rw [if_neg e] at h
      cases q : idxI xs i with
      | none => rw [q] at h; cases h
      | some k =>
        rw [q] at h
        cases h
        obtain ⟨h1, h2⟩ := idxI_ok q
        refine ⟨by simpa using h1, fun m z hm hz => ?_⟩
        cases m with
        | zero =>
          simp only [List.getElem?_cons_zero, Option.some.injEq] at hz
          rw [← hz]
          exact e
        | succ m => exact h2 m z (Nat.lt_of_succ_lt_succ hm) (by simpa using hz)
def idxD (o : D) (ds : List D) (S : Sto) : Res D := match ds with
  | [.int i] => match (lsOf S o).bind intsL with
    | some ns => match idxI ns i with
      | some j => .ok (.int (j : Nat)) S
      | none => .bad
    | none => .bad
  | _ => .bad
section
variable {cl : Str → Addr} {W : WX} {X : Cx} {a o : Expr} {f g : Ev D} {fs : List (Ev D)} {p pos apos cpos : Pos}
theorem ok_smB : OkN X.K cl (fun vs H Q => rSum X.K vs H Q ∨ rSumT X.K vs H Q) smB := by
  intro W σ am S H ds vs Q rs h p
  match ds, vs, h, p with
  | [d], _, .cons (v := v) r1 .nil, p =>
    simp only [smB] at p
    cases q : sqOf S d with
    | none => simp only [q, Option.bind_none] at p; exact p.elim
    | some xs =>
      simp only [q, Option.bind_some] at p
      cases q2 : intsL xs with
      | none => rw [q2] at p; exact p.elim
      | some ns =>
        rw [q2] at p
        obtain ⟨l, us, ev, k1, k2⟩ := sqOf_ok rs r1 q
        subst ev
        have k3 := ints_ok k2 q2
        rw [k3] at k1
        rcases k1 with k1 | k1
        · exact .inl ⟨l, ns, rfl, k1, p am _ H .refl rs (.int _)⟩
        · exact .inr ⟨l, ns, rfl, k1, p am _ H .refl rs (.int _)⟩
  | [], _, _, p => exact p.elim
  | _ :: _ :: _, _, _, p => exact p.elim
theorem qe_sumB (hc : X.calm = true) (hg : Gl X "sum") (hm : X.mg "sum" = none) (ha : QA cl W X [a] (eArgs fs)) (he : starEach [a] X.env = (false, eval a X.env) :: starEach [] X.env := by rfl) (hpl : (backTo pos (starEach [] X.env)).any (·.1) = false := by rfl) :
    QE cl W X (.Call (.Name "sum" p) [a] [] pos) (eCall smB fs) := qe_callB (cr_or (cr_sum hc) (cr_sumT hc)) ok_smB hg hm (by decide +kernel) ha (by decide) (by decide) he hpl
theorem ok_idx : OkM X.K cl "list" (rIndex X.K) idxD := by
  intro W σ am S H o ds x vs Q rs h1 h2 p
  match ds, vs, h2, p with
  | [d], [v], .cons r1 .nil, p =>
    cases r1 with
    | int i =>
      simp only [idxD] at p
      cases q : lsOf S o with
      | none => simp only [q, Option.bind_none] at p; exact p.elim
      | some xs =>
        simp only [q, Option.bind_some] at p
        cases q2 : intsL xs with
        | none => rw [q2] at p; exact p.elim
        | some ns =>
          rw [q2] at p
          simp only at p
          cases q3 : idxI ns i with
          | none => rw [q3] at p; exact p.elim
          | some j =>
            rw [q3] at p
            obtain ⟨l, us, ev, k1, k2⟩ := lsOf_ok rs h1 q
            subst ev
            have k3 := ints_ok k2 q2
            rw [k3] at k1
            obtain ⟨g1, g2⟩ := idxI_ok q3
            refine ⟨l, ns.map V.int, .int i, j, .int i, rfl, rfl, k1, rfl, ?_, by rw [List.getElem?_map, g1]; rfl, by simp [eqV], fun m z' hm hz => ?_, p am _ H .refl rs (.int _)⟩
            · rw [List.all_map]
              exact List.all_eq_true.mpr fun x _ => rfl
            · rw [List.getElem?_map, Option.map_eq_some_iff] at hz
              obtain ⟨z, hz, rfl⟩ := hz
              have := g2 m z hm hz
              simpa [eqV] using this
    | _ => exact p.elim
  | [], _, _, p => exact p.elim
  | _ :: _ :: _, _, _, p => 
    first
    | exact p.elim
    | (simp only [idxD] at p; exact p.elim)
theorem qe_index (ho : QE cl W X o g) (ha : QE cl W X a f) (h0 : starEach [a] X.env = (false, eval a X.env) :: starEach [] X.env := by rfl)
    (hbase : attributeBase o "index" X.env (eval o X.env) = eval o X.env := by rfl)
    (hfew : ((backTo cpos (starEach [a] X.env)).all (fun x => !x.1) && (backToKw cpos (keywordEach [] X.env)).all (fun x => x.1.isSome)
      && decide ([a].length + ([] : List Keyword).length + (if ([] : List Keyword).isEmpty then 0 else 1) < 30)) = true := by rfl)
    (hline : (apos.endLine == cpos.line) = true := by rfl) (hplain : (backTo cpos (starEach [] X.env)).any (·.1) = false := by rfl) :
    QE cl W X (.Call (.Attribute o "index" apos) [a] [] cpos) (eM "list" idxD g [f]) := qe_bm PySem.F.plainAttrs_list PySem.F.slot_list_index PySem.F.type_list_index mt_index ok_idx ho (qa_cons ha qa_nil h0) hbase hfew hline h0 hplain
end
section
variable {cl : Str → Addr} {X : Cx}
theorem op_mulS1 : OpR X (binaryOp .Mult) (fun x y H Q => ∃ (a : Str) (b : Bool), x = .str a ∧ y = .int (if b = true then 1 else 0) ∧ Q (.str (if b = true then a else Str.empty)) H) := by
  intro pins s σ H x y v u Q I rx ry h
  obtain ⟨a, b, rfl, rfl, q⟩ := h
  obtain ⟨t, rfl⟩ := rx
  obtain ⟨t2, rfl⟩ := ry
  cases b with
  | false => exact P.mul_str_none (by decide) (by decide) ⟨.str Str.empty, H, I.tok _, ⟨_, rfl⟩, q⟩
  | true => exact P.mul_str (by decide) (fun _ h => absurd h (by simp)) (fun _ h => absurd h (by simp)) (by
      rw [if_neg (by decide), if_pos (by simp)]
      exact ⟨.str a, H, I, ⟨_, rfl⟩, q⟩)
theorem qh_retS {i : Nat} {c : Str} {m z : Str} {j} {ex : Expr} {p2 p3 p4 p5 pos : Pos} {v : Bool} (hgI : Gl X "int") (hmI : X.mg "int" = none) (h : ∀ (a : Addr) (oe : Obj) (pn : List (Addr × Obj)), L2N.Zn (.ref (cl c)) none oe → (∃ vs, oe.data = .fields vs) → HE (X.suite a ((a, oe) :: pn)) i a ex v) (hv : (if v = true then m else Str.empty) = z := by rfl)
    (h0 : ∀ (a : Addr) (oe : Obj) (pn : List (Addr × Obj)), starEach [ex] (X.suite a ((a, oe) :: pn)).env = (false, eval ex (X.suite a ((a, oe) :: pn)).env) :: starEach [] (X.suite a ((a, oe) :: pn)).env := by intro _ _ _; rfl) (hpl : ∀ (a : Addr) (oe : Obj) (pn : List (Addr × Obj)), (backTo p4 (starEach [] (X.suite a ((a, oe) :: pn)).env)).any (·.1) = false := by intro _ _ _; rfl) :
    QH cl X i c [.Return (some (.BinOp (.Constant (.str m) j p2) .Mult (.Call (.Name "int" p3) [ex] [] p4) p5)) pos] (sRet (eC (.str z))) := fun a oe pn hz hf => by
  subst hv
  exact (pss_one (ps_ret (pe_op op_mulS1 pe_str (pe_callTy (X := X.suite a ((a, oe) :: pn)) call_int1 hgI hmI (by decide +kernel) (pa_cons (h a oe pn hz hf) pa_nil (h0 a oe pn)) (by decide) (by decide) (h0 a oe pn) (hpl a oe pn))))).imp fun D σ H ⟨am, e, S, rs, re, hσ, p⟩ => ⟨hσ, fun H' k => .inr ⟨v, rfl, m, v, rfl, rfl, by
    obtain ⟨g, rs'⟩ := rs.wide k
    exact p am (.str _) H' g rs' (.str _)⟩⟩
end
end Pu
set_option Elab.async false
set_option linter.all false
set_option maxRecDepth 100000
namespace HT
open PySem PySem.Spec PyProof.Rows
section
variable {prog : Program} {w : World} {A : Around} {E : Value → Shared → Prop} {s : Shared}
theorem adjust_back (n : Nat) : Builtin.Slice.sliceAdjust none none (-1) (n : Int) = ((n : Int) - 1, -1) := by
  unfold Builtin.Slice.sliceAdjust
  simp
theorem places_back (n : Nat) : Builtin.Slice.slicePlaces ((n : Int) - 1) (-1) (-1) = n := by
  unfold Builtin.Slice.slicePlaces
  rw [if_neg (by decide)]
  by_cases h : (n : Int) - 1 > -1
  · rw [if_pos h, show (-(-1 : Int)) = 1 by decide, Int.ediv_one]
    omega
  · rw [if_neg h]
    omega
theorem pick_back (xs : Array Value) : ((List.range xs.size).filterMap fun (m : Nat) => xs[(((xs.size : Nat) : Int) - 1 + (m : Int) * (-1)).toNat]?).toArray = xs.toList.reverse.toArray := by
  have e : (fun (m : Nat) => xs[(((xs.size : Nat) : Int) - 1 + (m : Int) * (-1)).toNat]?) = fun m => xs[xs.size - 1 - m]? := by
    funext m
    have : (((xs.size : Nat) : Int) - 1 + (m : Int) * (-1)).toNat = xs.size - 1 - m := by omega
    rw [this]
  rw [e]
  have h := PySem.W.krv_all xs
  have h2 : (List.range xs.size).filterMap (fun m => xs[xs.size - 1 - m]?) = ((List.range xs.size).map fun k => xs.size - 1 - k).filterMap (xs[·]?) := by
    rw [List.filterMap_map]
    rfl
  rw [h2, PySem.W.krv_range, List.filterMap_reverse, h]
theorem sliceApplied_back {sl : Addr} {vk : Value} {n : Nat} {Q : Int × Int × Nat → Shared → Prop} (hs : s.heap.IsSliceOf sl .none .none vk) (pk : IsPart vk (some (-1)))
    (h : Q ((n : Int) - 1, -1, n) s) : wpAny (model prog w) A (Builtin.Slice.sliceApplied (.ref sl) (pure (n : Int))) Q E s := by
  obtain ⟨os, hos, hcs, hds⟩ := id hs
  unfold Builtin.Slice.sliceApplied Builtin.Slice.sliceFields
  refine wpAny_bind (wpAny_bind (wpAny_field hos hds (x := .none) rfl (wpAny_bind (wpAny_field hos hds (x := .none) rfl (wpAny_bind (wpAny_field hos hds (x := vk) rfl (wpAny_pure ?_)))))))
  refine wpAny_bind (slicePart_ pk ?_)
  show wpAny _ _ (if ((-1 : Int) == 0) = true then _ else _) _ _ s
  rw [if_neg (by decide)]
  refine wpAny_bind (slicePart_none (wpAny_bind (slicePart_none (wpAny_bind (wpAny_pure ?_)))))
  show wpAny _ _ (match Builtin.Slice.sliceAdjust none none (-1) (n : Int) with | (lo, hi) => pure (lo, (-1 : Int), Builtin.Slice.slicePlaces lo hi (-1))) _ _ s
  rw [adjust_back n]
  show wpAny _ _ (pure ((n : Int) - 1, (-1 : Int), Builtin.Slice.slicePlaces ((n : Int) - 1) (-1) (-1))) _ _ s
  rw [places_back]
  exact wpAny_pure h
theorem getItem_tuple_back {t sl : Addr} {items : Array Value} {vk : Value} {Q : Value → Shared → Prop} (ht : IsTup s.heap t items) (hs : s.heap.IsSliceOf sl .none .none vk) (pk : IsPart vk (some (-1)))
    (h : Q (.ref s.heap.objs.size) { s with heap := s.heap.push { cls := .type "tuple", data := .seq items.toList.reverse.toArray } })
    (hsz : items.size ≤ sizeLine) : wpAny (model prog w) A (getItem (.ref t) (.ref sl)) Q E s := by
  have htake : sizeOk (.seq items.toList.reverse.toArray) := by
    show items.toList.reverse.toArray.size ≤ sizeLine
    rw [List.size_toArray, List.length_reverse, Array.length_toList]
    omega
  obtain ⟨os, hos, hcs, hds⟩ := id hs
  have hTs : s.TypeIs (.ref sl) "slice" := ⟨os, hos, hcs⟩
  unfold getItem
  try with_reducible refine wpAny_holding ?_
  first | refine wpAny_bind (wpAny_pure ?_) | skip
  refine wpAny_bind (wpAny_sequenceKey ht.typeIs (by decide) ?_)
  refine wpAny_bind (wpAny_callSpecial?_slot (name := Str.ofString "__getitem__") ht.typeIs PyProof.Rows.slot_tuple_getitem
    (wpAny_call_entry PyProof.Rows.slot_tuple_getitem ht.typeIs entry_tuple_getitem ?_ (args_tuple_getitem _ _)))
  show wpAny _ _ (Builtin.Tuple.tupleItemsOf (.ref t) >>= _) _ _ s
  refine wpAny_bind (tupleItemsOf_ ht ?_)
  refine wpAny_bind (wpAny_typeOf hTs ?_)
  rw [if_pos (by decide)]
  refine wpAny_bind (sliceApplied_back hs pk ?_)
  have hno : ¬ ((((items.size : Nat) : Int) - 1 == 0 && (-1 : Int) == 1 && items.size == items.size) = true) := by
    intro q
    rw [Bool.and_eq_true, Bool.and_eq_true] at q
    exact absurd q.1.2 (by decide)
  show wpAny _ _ (if (((items.size : Nat) : Int) - 1 == 0 && (-1 : Int) == 1 && items.size == items.size) = true then _ else _) _ _ s
  rw [if_neg hno, pick_back]
  first
    | exact wpAny_bind (m := Builtin.Tuple.tupleExact _) (wpAny_newObj_type (wpAny_pure ⟨_, rfl, wpAny_pure h⟩) htake)
    | exact wpAny_bind (m := Builtin.Tuple.tupleExact _) (wpAny_newObj_type (wpAny_bind (wpAny_pure (wpAny_pure ⟨_, rfl, wpAny_pure h⟩))) htake)
    | exact wpAny_bind (wpAny_bind (m := Builtin.Tuple.tupleExact _) (wpAny_newObj_type (wpAny_pure (wpAny_pure ⟨_, rfl, wpAny_pure h⟩)) htake))
    | exact wpAny_bind (wpAny_bind (m := Builtin.Tuple.tupleExact _) (wpAny_newObj_type (wpAny_pure ⟨_, rfl, wpAny_pure h⟩) htake))
end
end HT
namespace Pu
open PySem PySem.Spec PyProof.Rows L2
/-- what x[::-1] is, by values -/
def SlB (X : Cx) (r : V → Hp → VK → Prop) : Prop :=
  ∀ (pins : List (Addr × Obj)) (s : Shared) (σ : L2.St) (H : Hp) (x : V) (v vk : Value) (sl : Addr) (Q : VK), Inv X pins σ H s → RelV x v → s.heap.IsSliceOf sl .none .none vk → IsPart vk (some (-1)) → r x H Q →
    ∃ T id, typeLookup (.type T) "__getitem__" = pure (some (.builtin id)) ∧ s.TypeIs v T ∧ wpAny (model X.prog X.w) X.A (getItem v (.ref sl)) (EP X pins σ Q) X.xe s
section
variable {X : Cx}
theorem SlB.or {r r' : V → Hp → VK → Prop} (h : SlB X r) (h' : SlB X r') : SlB X (fun x H Q => r x H Q ∨ r' x H Q) := by
  intro pins s σ H x v vk sl Q I rx hs pk q
  rcases q with q | q
  · exact h pins s σ H x v vk sl Q I rx hs pk q
  · exact h' pins s σ H x v vk sl Q I rx hs pk q
def rBkT (K : PySem.W.Frag) : V → Hp → VK → Prop := fun x H Q => ∃ a xs, x = .ref a ∧ SqT K H a xs ∧ NT xs.reverse H Q
def rBkL (K : PySem.W.Frag) : V → Hp → VK → Prop := fun x H Q => ∃ a xs, x = .ref a ∧ SqL K H a xs ∧ ∀ p, H p = none → Q (.ref p) (upd H p (.lst xs.reverse))
theorem bk_tup : SlB X (rBkT X.K) := by
  intro pins s σ H x v vk sl Q I rx hs pk h
  obtain ⟨a, xs, rfl, hx, q⟩ := h
  cases rx
  obtain ⟨its, r, ht, hz⟩ := I.tuple hx
  refine ⟨"tuple", _, PyProof.Rows.slot_tuple_getitem.lookup, ht.typeIs, ?_⟩
  refine HT.getItem_tuple_back ht hs pk ?_ (by rw [List.size_toArray, ← r.length]; exact hz)
  exact NT.lay (tk := s.toks) I r.reverse (by rw [List.length_reverse]; exact hz) q
theorem bk_lst : SlB X (rBkL X.K) := by
  intro pins s σ H x v vk sl Q I rx hs pk h
  obtain ⟨a, xs, rfl, hx, q⟩ := h
  cases rx
  obtain ⟨its, r, ht, hz⟩ := I.list hx
  have hlen := r.length
  refine ⟨"list", _, PySem.slot_list_getitem.lookup, ht.isList.typeIs, ?_⟩
  refine wpAny_getItem_list_slice ht.isList hs .none .none pk (by decide) ?_ (by rw [List.size_toArray]; omega)
  rw [PySem.W.krv_pick]
  refine ⟨.ref _, _, I.laid (t' := s.toks) (o := .lst xs.reverse) (fun b ob q => Heap.get?_push_of_some _ q) (Nat.le_refl _) ?_, rfl, q _ (I.hok.fresh (Nat.le_refl _))⟩
  exact ⟨by rw [List.length_reverse]; exact hz, _, 0, r.reverse, Heap.get?_push_size _ rfl⟩
def tBk (r : V → Hp → VK → Prop) (te : TE) : TE := fun σ H Q => te σ H fun x H1 => r x H1 Q
theorem pe_back {r : V → Hp → VK → Prop} {e : Expr} {te : TE} {k : Nat} {p1 p2 p3 pos : Pos} (hr : SlB X r) (he : PE X e te) : PE X (.Subscript e (.Slice none none (some (.UnaryOp .USub (.Constant (.int 1) k p1) p2)) p3) pos) (tBk r te) := by
  refine ⟨fun pins s σ H Q I h => ?_⟩
  refine Subscript_ (thn (he.run pins s σ H _ I h) fun v s1 ⟨x, H1, I1, r1, q1⟩ => ?_)
  have hst : PO X (some (.UnaryOp .USub (.Constant (.int 1) k p1) p2)) (tPart (tUn (rU fun i => .int (-i)) (tC (.int 1)))) := po_some (pe_un un_neg pe_int)
  refine wpAny_Slice (thn (po_none.run pins s1 σ H1 (fun o H2 => o = none ∧ H2 = H1) I1 ⟨rfl, rfl⟩) fun vl s2 ⟨l, H2, I2, pl, el, e2⟩ => ?_)
  subst el e2
  refine thn (po_none.run pins s2 σ H2 (fun o H3 => o = none ∧ H3 = H2) I2 ⟨rfl, rfl⟩) fun vu s3 ⟨u, H3, I3, pu, eu, e3⟩ => ?_
  subst eu e3
  refine thn (hst.run pins s3 σ H3 (fun o H4 => o = some (-1) ∧ H4 = H3) I3 ⟨1, rfl, -1, rfl, rfl, rfl⟩) fun vs s4 ⟨o, H4, I4, ps, eo, e4⟩ => ?_
  subst eo e4
  cases pl
  cases pu
  have I5 : Inv X pins σ H4 { s4 with heap := s4.heap.push { cls := .type "slice", data := .fields #[.none, .none, vs] } } := I4.kept (t' := s4.toks) fun b ob q => Heap.get?_push_of_some _ q
  obtain ⟨T, id, hT, ht, hg⟩ := hr pins { s4 with heap := s4.heap.push { cls := .type "slice", data := .fields #[.none, .none, vs] } } σ H4 x v vs s4.heap.objs.size Q I5 r1 (Heap.IsSliceOf.new _ .none .none vs) ps q1
  show wpAny (model X.prog X.w) X.A (subscriptTail e (.Slice none none (some (.UnaryOp .USub (.Constant (.int 1) k p1) p2)) p3) v (.ref s4.heap.objs.size)) (EP X pins σ Q) X.xe { s4 with heap := s4.heap.push { cls := .type "slice", data := .fields #[.none, .none, vs] } }
  exact tail_any (ops := [v, .ref s4.heap.objs.size]) ht hT hg (by with_unfolding_all rfl)
end
section
variable {cl : Str → Addr} {W : WX} {X : Cx} {a : Expr} {f : Ev D} {pos : Pos}
def bkD (d : D) (S : Sto) : Res D := match d with
  | .tup xs => .ok (.tup xs.reverse) S
  | d => match lsOf S d with
    | some xs => .ok (.lst xs.reverse) S
    | none => .bad
@[simp] theorem bkD_tup {xs : List D} {S : Sto} : bkD (.tup xs) S = .ok (.tup xs.reverse) S := id rfl
@[simp] theorem bkD_lst {xs : List D} {S : Sto} : bkD (.lst xs) S = .ok (.lst xs.reverse) S := id rfl
theorem VRs.back {K : PySem.W.Frag} {am : AM} {H : Hp} : ∀ {ds : List D} {vs : List V}, VRs K am H ds vs → VRs K am H ds.reverse vs.reverse
  | _, _, .nil => .nil
  | _, _, .cons h1 h2 => by
    rw [List.reverse_cons, List.reverse_cons]
    exact (VRs.back h2).append (.cons h1 .nil)
theorem qe_back {k : Nat} {p1 p2 p3 : Pos} (ha : QE cl W X a f) : QE cl W X (.Subscript a (.Slice none none (some (.UnaryOp .USub (.Constant (.int 1) k p1) p2)) p3) pos) (e1 bkD f) :=
  (pe_back (SlB.or bk_tup bk_lst) ha).imp fun σ H Q ⟨am, e, S, rs, re, p⟩ =>
    ⟨am, e, S, rs, re, (Post.step p).imp fun x H1 ⟨am1, S1, d, _, g1, rs1, rv, p1⟩ => by
      have ls : Post X.K cl W σ (VR X.K) am1 H1 (match lsOf S1 d with | some xs => .ok (.lst xs.reverse) S1 | none => .bad) Q → rBkL X.K x H1 Q := fun p => by
        cases q : lsOf S1 d with
        | none => rw [q] at p; exact p.elim
        | some xs =>
          rw [q] at p
          obtain ⟨a, vs, ev, r1, hs⟩ := lsOf_ok rs1 rv q
          exact ⟨a, vs, ev, r1, fun q hq => p am1 _ _ (Grow.upd hq) (rs1.upd hq) (VR.lstNew rs1 hs.back hq)⟩
      cases rv with
      | @tup a vs ds h1 h2 => exact .inl ⟨a, vs, rfl, h1.seq, fun q ob hq hd => p1 am1 _ _ (Grow.upd hq) (rs1.upd hq) (VR.tupNew rs1 h2.back hq hd)⟩
      | lst _ _ _ => exact .inr (ls p1)
      | fls _ _ => exact .inr (ls p1)
      | ref _ => exact .inr (ls p1)
      | _ => exact p1.elim⟩
end
def fstI (z : PyData) : List PyData → Option Nat
  | [] => none
  | x :: xs => if PyData.eqv x z = true then some 0 else (fstI z xs).map (· + 1)
theorem fstI_ok {z : PyData} : ∀ {xs : List PyData} {j : Nat}, fstI z xs = some j → (∃ x, xs[j]? = some x ∧ PyData.eqv x z = true) ∧ ∀ (m : Nat) (x : PyData), m < j → xs[m]? = some x → PyData.eqv x z = false
  | [], j, h => by cases h
  | x :: xs, j, h => by
    unfold fstI at h
    by_cases e : PyData.eqv x z = true
    · rw [if_pos e] at h
      cases h
      exact ⟨⟨x, rfl, e⟩, fun m y hm => absurd hm (Nat.not_lt_zero _)⟩
    · rw [if_neg e, Option.map_eq_some_iff] at h
      obtain ⟨i, hi, rfl⟩ := h
      obtain ⟨⟨y, h1, h2⟩, h3⟩ := fstI_ok hi
      refine ⟨⟨y, h1, h2⟩, fun m w hm hw => ?_⟩
      cases m with
      | zero => cases hw; exact Bool.eq_false_iff.mpr e
      | succ m => exact h3 m w (by omega) hw
def idxG (o : D) (ds : List D) (S : Sto) : Res D := match ds with
  | [d] => match lsOf S o with
    | some xs => if SeqAt.shaped d.py = true ∧ SeqAt.shaped (.list (pys xs)) = true then match fstI d.py (pys xs) with
      | some j => .ok (.int (j : Nat)) S
      | none => .bad
      else .bad
    | none => .bad
  | _ => .bad
section
variable {cl : Str → Addr} {W : WX} {X : Cx} {a o : Expr} {f g : Ev D} {pos apos cpos : Pos}
theorem ok_idxG : OkM X.K cl "list" (rIndexD X.K) idxG := by
  intro W σ am S H o ds x vs Q rs h1 h2 p
  match ds, vs, h2, p with
  | [d], [v], .cons r1 .nil, p =>
    simp only [idxG] at p
    cases q : lsOf S o with
    | none => rw [q] at p; exact p.elim
    | some xs =>
      rw [q] at p
      simp only at p
      by_cases hc : SeqAt.shaped d.py = true ∧ SeqAt.shaped (.list (pys xs)) = true
      · rw [if_pos hc] at p
        cases q3 : fstI d.py (pys xs) with
        | none => rw [q3] at p; exact p.elim
        | some j =>
          rw [q3] at p
          obtain ⟨⟨z, g1, g2⟩, g3⟩ := fstI_ok q3
          have hd := r1.dp (SeqAt.canLay_of_shaped hc.1)
          have hl := lsOf_py rs h1 q (by simpa [PyData.canLay0] using SeqAt.canLay_of_shaped hc.2)
          obtain ⟨l, us, ev, k1, k2⟩ := lsOf_ok rs h1 q
          subst ev
          exact ⟨l, v, d.py, pys xs, j, z, rfl, rfl, hl, hd, hc.2, hc.1, g1, g2, g3, p am _ H .refl rs (.int _)⟩
      · rw [if_neg hc] at p
        exact p.elim
  | [], _, _, p => exact p.elim
  | _ :: _ :: _, _, _, p => exact p.elim
theorem qe_indexD {k : Nat} (hr : Room k X.A) (ho : QE cl W X o g) (ha : QE cl W X a f) (h0 : starEach [a] X.env = (false, eval a X.env) :: starEach [] X.env := by rfl)
    (hbase : attributeBase o "index" X.env (eval o X.env) = eval o X.env := by rfl)
    (hfew : ((backTo cpos (starEach [a] X.env)).all (fun x => !x.1) && (backToKw cpos (keywordEach [] X.env)).all (fun x => x.1.isSome)
      && decide ([a].length + ([] : List Keyword).length + (if ([] : List Keyword).isEmpty then 0 else 1) < 30)) = true := by rfl)
    (hline : (apos.endLine == cpos.line) = true := by rfl) (hplain : (backTo cpos (starEach [] X.env)).any (·.1) = false := by rfl) :
    QE cl W X (.Call (.Attribute o "index" apos) [a] [] cpos) (eM "list" idxG g [f]) := qe_bm PySem.F.plainAttrs_list PySem.F.slot_list_index PySem.F.type_list_index (mt_indexD (units65 hr)) ok_idxG ho (qa_cons ha qa_nil h0) hbase hfew hline h0 hplain
end
def inTD (neg : Bool) (d o : D) (S : Sto) : Res D := match o with
  | .tup xs => if SeqAt.shaped d.py = true ∧ SeqAt.shaped (.list (pys xs)) = true then .ok (.bl (if neg = true then !((pys xs).any fun z => PyData.eqv z d.py) else (pys xs).any fun z => PyData.eqv z d.py)) S else .bad
  | _ => .bad
section
variable {X : Cx}
def rInTD (K : PySem.W.Frag) : R2 := fun x y H Q => ∃ d ds, Dp K H x d ∧ Dp K H y (.tuple ds) ∧ SeqAt.shaped d = true ∧ SeqAt.shaped (.list ds) = true ∧ Q (.bl (ds.any fun z => PyData.eqv z d)) H
def rNotInTD (K : PySem.W.Frag) : R2 := fun x y H Q => ∃ d ds, Dp K H x d ∧ Dp K H y (.tuple ds) ∧ SeqAt.shaped d = true ∧ SeqAt.shaped (.list ds) = true ∧ Q (.bl (!ds.any fun z => PyData.eqv z d)) H
theorem op_inTD (hu : X.A.units + 65 < cLine) : OpR X (compareOp .In) (rInTD X.K) := by
  intro pins s σ H x y v u Q I rx ry h
  obtain ⟨d, ds, hd, he, sd, se, q⟩ := h
  obtain ⟨as, r1⟩ := Dp.reads I d x v hd rx
  obtain ⟨bs, r2⟩ := Dp.reads I (.tuple ds) y u he ry
  exact SeqAt.in_tuple_reads r2 r1 (SeqAt.canLay_of_shaped (d := .list ds) se) (SeqAt.canLay_of_shaped sd) (room_in_shaped sd hu) ⟨.bl _, H, I, rfl, q⟩
theorem op_notInTD (hu : X.A.units + 65 < cLine) : OpR X (compareOp .NotIn) (rNotInTD X.K) := by
  intro pins s σ H x y v u Q I rx ry h
  obtain ⟨d, ds, hd, he, sd, se, q⟩ := h
  obtain ⟨as, r1⟩ := Dp.reads I d x v hd rx
  obtain ⟨bs, r2⟩ := Dp.reads I (.tuple ds) y u he ry
  exact SeqAt.notIn_tuple_reads r2 r1 (SeqAt.canLay_of_shaped (d := .list ds) se) (SeqAt.canLay_of_shaped sd) (room_in_shaped sd hu) ⟨.bl _, H, I, rfl, q⟩
end
section
variable {cl : Str → Addr} {W : WX} {X : Cx} {a b : Expr} {f g : Ev D} {pos : Pos}
theorem ok_inTD (neg : Bool) : Ok2 X.K cl (fun x y H Q => if neg = true then rNotInTD X.K x y H Q else rInTD X.K x y H Q) (inTD neg) := by
  intro W σ am S H d o v u Q rs h1 h2 p
  cases h2 with
  | @tup a vs xs t hs =>
    simp only [inTD] at p
    by_cases hc : SeqAt.shaped d.py = true ∧ SeqAt.shaped (.list (pys xs)) = true
    · rw [if_pos hc] at p
      have p' := p am _ H .refl rs (.bl _)
      have hd := h1.dp (SeqAt.canLay_of_shaped hc.1)
      have hl : Dp X.K H (.ref a) (.tuple (pys xs)) := (VR.tup t hs).dp (by simpa [PyData.canLay0, D.py] using SeqAt.canLay_of_shaped hc.2)
      cases neg with
      | true => exact ⟨_, _, hd, hl, hc.1, hc.2, p'⟩
      | false => exact ⟨_, _, hd, hl, hc.1, hc.2, p'⟩
    · rw [if_neg hc] at p
      exact p.elim
  | _ => exact p.elim
theorem qe_inT {k : Nat} (hr : Room k X.A) (ha : QE cl W X a f) (hb : QE cl W X b g) (hm : behindInMarks .In b = false := by rfl) : QE cl W X (.Compare a [.In] [b] pos) (e2 (inTD false) f g) := qe_cmp (op_inTD (units65 hr)) (ok_inTD false) ha hb hm
theorem qe_notInT {k : Nat} (hr : Room k X.A) (ha : QE cl W X a f) (hb : QE cl W X b g) (hm : behindInMarks .NotIn b = false := by rfl) : QE cl W X (.Compare a [.NotIn] [b] pos) (e2 (inTD true) f g) := qe_cmp (op_notInTD (units65 hr)) (ok_inTD true) ha hb hm
theorem qt_inT {k : Nat} (hr : Room k X.A) (ha : QE cl W X a f) (hb : QE cl W X b g) (hm : behindInMarks .In b = false := by rfl) : QT cl W X (.Compare a [.In] [b] pos) (eTB (e2 (inTD false) f g)) := qt_cmp (op_inTD (units65 hr)) (ok_inTD false) ha hb hm
theorem qt_notInT {k : Nat} (hr : Room k X.A) (ha : QE cl W X a f) (hb : QE cl W X b g) (hm : behindInMarks .NotIn b = false := by rfl) : QT cl W X (.Compare a [.NotIn] [b] pos) (eTB (e2 (inTD true) f g)) := qt_cmp (op_notInTD (units65 hr)) (ok_inTD true) ha hb hm
end
end Pu
set_option Elab.async false
set_option linter.all false
set_option maxRecDepth 100000
namespace Pu
open PySem PySem.Spec PyProof.Rows L2
section
variable {cl : Str → Addr} {W : WX} {X : Cx}
def nDct2 (k1 v1 k2 v2 : Str) : Ev DO := fun _ S => .ok (.dct [(.inr k1, .str v1), (.inr k2, .str v2)]) S
theorem qn_dct2 {k1 v1 k2 v2 : Str} {j1 j2 j3 j4 : Nat} {p1 p2 p3 p4 pos : Pos} (hne : k1 ≠ k2) : QN cl W X (.Dict [some (.Constant (.str k1) j1 p1), some (.Constant (.str k2) j2 p2)] [.Constant (.str v1) j3 p3, .Constant (.str v2) j4 p4] pos) (nDct2 k1 v1 k2 v2) :=
  (pe_disp (pps_cons pe_str pe_str (pps_cons pe_str pe_str pps_nil)) rfl rfl (by simp) (by simp)).imp fun σ H Q ⟨am, e, S, rs, re, p⟩ => fun q hq => by
    refine ⟨upd_same, [(.inr k1, .str v1), (.inr k2, .str v2)], rfl, by simp, ?_⟩
    rw [upd_upd]
    have e : mergeK [] [((Sum.inr k1 : Key), V.str v1), (Sum.inr k2, V.str v2)] = [(Sum.inr k1, V.str v1), (Sum.inr k2, V.str v2)] := by
      have h1 : putK ([] : List (Key × V)) (Sum.inr k1) (V.str v1) = [(Sum.inr k1, V.str v1)] := rfl
      have h2 : putK [((Sum.inr k1 : Key), V.str v1)] (Sum.inr k2) (V.str v2) = [(Sum.inr k1, V.str v1), (Sum.inr k2, V.str v2)] := by
        have : ¬ ((Sum.inr k1 : Key) = Sum.inr k2) := fun z => hne (by cases z; rfl)
        simp [putK, this]
      show putK (putK ([] : List (Key × V)) (Sum.inr k1) (V.str v1)) (Sum.inr k2) (V.str v2) = _
      rw [h1, h2]
    rw [e]
    exact PostN.laid p .refl rs hq ⟨_, upd_same, .cons (.str _) (.cons (.str _) .nil)⟩
end
def sTry0 (ks : List (Str × Bool)) (u : Stm) (hd : Str → Stm) : Stm := fun e S => match u e S with
  | .exc c e1 S1 => match ks.lookup c with
    | some true => (match hd c e1 S1 with
      | .exc _ _ _ => .bad
      | r => r)
    | some false => .exc c e1 S1
    | none => .bad
  | r => r
section
variable {cl : Str → Addr} {W : WX} {X : Cx}
theorem qs_try0 {ks : List (Str × Bool)} {x : Str} {c : Value} {body suite : List Stmt} {b₀ : Stmt} {np pos pos' : Pos} {u : Stm} {hd : Str → Stm} (hs : X.stack = X.env :: X.outer) (hf : X.env.frame = some X.env.locals) (hc : Names X x c) (tk : L2N.Takes X W)
    (hb : ∀ (W' : WX) (pn : List (Addr × Obj)) (xe : Value → Shared → Prop), L2N.Takes (X.tr pn xe) W' → PassesOwn (model X.prog X.w) X.A X.env xe → QB cl W' (X.tr pn xe) body u)
    (hks0 : ∀ p ∈ ks, PySem.W.exmOne X.K (.ref (cl p.1)) c = some p.2)
    (hsu0 : ∀ p ∈ ks, p.2 = true → ∀ (a : Addr) (oe : Obj) (pn : List (Addr × Obj)), QB cl noW (X.suite a ((a, oe) :: pn)) (b₀ :: suite) (hd p.1)) :
    QS cl W X (.Try body [.ExceptHandler (some (.Name x np)) none (b₀ :: suite) pos'] [] [] pos) (sTry0 ks u hd) := by
  have hks : ∀ y b, ks.lookup y = some b → PySem.W.exmOne X.K (.ref (cl y)) c = some b := fun y b h => hks0 (y, b) (mem_of_lookup h)
  refine (L2N.ps_try_many (tb := fun W' => TDs X.K cl W' u) (l := [(c, fun a cls d D σ H => ∃ y, cls = .ref (cl y) ∧ ks.lookup y = some true ∧ TDs X.K cl noW (hd y) D σ H)]) (Wout := W) hs hf tk hb (.cons hc (fun a oe cls d pn hz hfl => ⟨fun pins s σ H D I h => ?_⟩) .nil)).imp ?_
  · obtain ⟨y, rfl, hl, h⟩ := h
    exact (hsu0 (y, true) (mem_of_lookup hl) rfl a oe pn).run pins s σ H D I h
  · intro D σ H ⟨am, e, S, rs, re, p⟩
    refine ⟨am, e, S, rs, re, ?_⟩
    unfold sTry0 at p
    cases q : u e S with
    | next e1 S1 => rw [q] at p; exact p
    | ret d S1 => rw [q] at p; exact p
    | brk e1 S1 => rw [q] at p; exact p
    | cnt e1 S1 => rw [q] at p; exact p
    | bad => rw [q] at p; exact p.elim
    | exc y e1 S1 =>
      rw [q] at p
      simp only at p
      intro am' σ' H' g rs' re'
      cases hl : ks.lookup y with
      | none => rw [hl] at p; exact p.elim
      | some b =>
        rw [hl] at p
        refine ⟨b, hks y b hl, fun hb1 a na => ?_, fun hb0 => ?_⟩
        · subst hb1
          simp only at p
          refine ⟨y, rfl, hl, am', e1, S1, rs', re', ?_⟩
          cases q2 : hd y e1 S1 with
          | next e2 S2 =>
            rw [q2] at p
            exact fun am2 σ2 H2 g2 rs2 re2 => p am2 _ H2 (g.trans g2) rs2 re2
          | brk e2 S2 =>
            rw [q2] at p
            exact fun am2 σ2 H2 g2 rs2 re2 => p am2 _ H2 (g.trans g2) rs2 re2
          | cnt e2 S2 =>
            rw [q2] at p
            exact fun am2 σ2 H2 g2 rs2 re2 => p am2 _ H2 (g.trans g2) rs2 re2
          | ret d S2 =>
            rw [q2] at p
            exact fun am2 v2 H2 g2 rs2 rv2 => p am2 v2 H2 (g.trans g2) rs2 rv2
          | exc y2 e2 S2 => rw [q2] at p; exact p.elim
          | bad => rw [q2] at p; exact p.elim
        · subst hb0
          exact p am' σ' H' g rs' re'
end
theorem rpRow0 : Rp rowD 1 := Rp.int.pr Rp.int
section
variable {X : Cx}
def rMxP (K : PySem.W.Frag) : List V → Hp → VK → Prop := fun vs H Q => ∃ (a : Addr) (us : List V) (x : PyData) (xs : List PyData), vs = [V.ref a] ∧ SqT K H a us ∧ DpAll K H us (x :: xs) ∧ PySem.W.AlikeAll (x :: xs) ∧ PyData.canLayAll0 (x :: xs) = true ∧ PyData.depthAll (x :: xs) ≤ 8 ∧
  ∀ (i : Nat) (u : V), us[i]? = some u → (x :: xs)[i]? = some (PySem.W.maxD x xs) → Q u H
theorem cr_mxP (hc : X.calm = true) (hu : X.A.units + 65 < cLine) : CallR X (.builtin "max") (rMxP X.K) := by
  intro pins s σ H vs ws Q I r h
  obtain ⟨a, us, x, xs, rfl, hs, hd, ha, hl, hdp, q⟩ := h
  obtain ⟨its, rv, hT, _⟩ := I.tuple hs
  rw [Vals.ref1 r]
  obtain ⟨as, hr⟩ := Dp.readsAll I (x :: xs) us its hd rv
  refine PySem.W.max_tuple_data (vs := its.toArray) (I.ok.hd hc) hT hr ha (by omega) fun i v h' tk bs hv hr' hk => ?_
  have hv' : its[i]? = some v := by simpa using hv
  obtain ⟨bs', r1, hi, _, _⟩ := PySem.W.readsAll_at hr i v hv'
  have hil := (List.getElem?_eq_some_iff.mp hv').1
  have hul : i < us.length := by rw [rv.length]; exact hil
  obtain ⟨u, hu'⟩ : ∃ u, us[i]? = some u := ⟨_, List.getElem?_eq_getElem hul⟩
  obtain ⟨v', e1', ru⟩ := rv.get hu'
  rw [hv'] at e1'
  cases e1'
  have r2 := PySem.W.reads_keeps hk r1
  have hcl : ((x :: xs).getD i .none).canLay0 = true := by
    have hm : (x :: xs).getD i .none ∈ (x :: xs) := by
      have hi2 : i < (x :: xs).length := hi
      rw [List.getD_eq_getElem?_getD, List.getElem?_eq_getElem hi2]
      exact List.getElem_mem hi2
    have : ∀ (zs : List PyData), PyData.canLayAll0 zs = true → ∀ z ∈ zs, z.canLay0 = true := by
      intro zs
      induction zs with
      | nil => intro _ z hz; cases hz
      | cons y zs ih =>
        intro h z hz
        simp only [PyData.canLayAll0, Bool.and_eq_true] at h
        rcases List.mem_cons.mp hz with rfl | hz
        · exact h.1
        · exact ih h.2 z hz
    exact this _ hl _ hm
  have eq := PySem.SeqAt.Reads.unique _ _ v _ _ hcl r2 hr'
  refine ⟨u, H, I.kept (t' := tk) hk, ru, q i u hu' ?_⟩
  have hi2 : i < (x :: xs).length := hi
  rw [List.getD_eq_getElem?_getD, List.getElem?_eq_getElem hi2] at eq
  rw [List.getElem?_eq_getElem hi2, ← eq]
  rfl
end
def mxS (a y : Int × Int) : Int × Int := if PySem.W.dataLt (rowD a).py (rowD y).py = true then y else a
def mxP (ds : List D) (S : Sto) : Res D := match ds with
  | [d] => match d with
    | .tup xs => match prsL xs with
      | some (p :: ps) => .ok (rowD (ps.foldl mxS p)) S
      | _ => .bad
    | _ => .bad
  | _ => .bad
theorem mxP_some {p : Int × Int} {ps : List (Int × Int)} {S : Sto} : mxP [.tup ((p :: ps).map rowD)] S = .ok (rowD (ps.foldl mxS p)) S := by
  unfold mxP
  simp only [prsL_map]
theorem mx_py : ∀ (ps : List (Int × Int)) (p : Int × Int), PySem.W.maxD (rowD p).py (pys (ps.map rowD)) = (rowD (ps.foldl mxS p)).py
  | [], p => rfl
  | y :: ps, p => by
    have ih := mx_py ps (mxS p y)
    show PySem.W.maxD (if PySem.W.dataLt (rowD p).py (rowD y).py = true then (rowD y).py else (rowD p).py) (pys (ps.map rowD)) = _
    rw [List.foldl_cons, ← ih]
    unfold mxS
    split <;> rfl
section
variable {cl : Str → Addr} {W : WX} {X : Cx} {a : Expr} {fs : List (Ev D)} {pos p : Pos}
theorem alike_row (x y : Int × Int) : PySem.W.alike (rowD x).py (rowD y).py = true := by
  show PySem.W.alike (.tuple [.int x.1, .int x.2]) (.tuple [.int y.1, .int y.2]) = true
  simp [PySem.W.alike, PySem.W.alikeAll]
theorem ok_mxP : OkN X.K cl (rMxP X.K) mxP := by
  intro W σ am S H ds vs Q rs h1 pp
  match ds, vs, h1, pp with
  | [d], [v], .cons r1 .nil, pp =>
    cases r1 with
    | @tup l us xs ht hs =>
      unfold mxP at pp
      simp only at pp
      cases e : prsL xs with
      | none => rw [e] at pp; exact pp.elim
      | some ps =>
        rw [e] at pp
        cases ps with
        | nil => exact pp.elim
        | cons z zs =>
          have ex := prsL_eq e
          subst ex
          have hall : ∀ d ∈ pys ((z :: zs).map rowD), ∃ q : Int × Int, d = (rowD q).py := by
            intro d hd
            rw [pys_eq, List.map_map] at hd
            obtain ⟨q, _, rfl⟩ := List.mem_map.mp hd
            exact ⟨q, rfl⟩
          refine ⟨l, us, (rowD z).py, pys (zs.map rowD), rfl, ht.seq, hs.dp (lays rpRow0 (z :: zs)), ⟨fun x hx y hy => ?_, fun x hx e => ?_⟩, lays rpRow0 (z :: zs), Nat.le_trans (deps rpRow0 (z :: zs)) (by decide), fun i u hu hi => ?_⟩
          · obtain ⟨q, rfl⟩ := hall x hx
            obtain ⟨q', rfl⟩ := hall y hy
            exact alike_row q q'
          · obtain ⟨q, rfl⟩ := hall x hx
            cases e
          · rw [mx_py] at hi
            have hi2 : (pys ((z :: zs).map rowD))[i]? = some (rowD (zs.foldl mxS z)).py := hi
            rw [pys_eq, List.map_map, List.getElem?_map, Option.map_eq_some_iff] at hi2
            obtain ⟨q, hq, e2'⟩ := hi2
            have eq : q = zs.foldl mxS z := by
              obtain ⟨q1, q2⟩ := q
              generalize zs.foldl mxS z = w at e2'
              obtain ⟨w1, w2⟩ := w
              have e3' : PyData.tuple [.int q1, .int q2] = .tuple [.int w1, .int w2] := e2'
              simp at e3'
              rw [e3'.1, e3'.2]
            subst eq
            have hd : ((z :: zs).map rowD)[i]? = some (rowD (zs.foldl mxS z)) := by rw [List.getElem?_map, hq]; rfl
            obtain ⟨u', hu2, rv⟩ := hs.get hd
            rw [hu] at hu2
            cases hu2
            exact pp am _ H .refl rs rv
    | _ => exact pp.elim
  | [], _, _, pp => exact pp.elim
  | _ :: _ :: _, _, _, pp =>
    first
    | exact pp.elim
    | (unfold mxP at pp; exact pp.elim)
theorem qe_mxP {k : Nat} (hr : Room k X.A) (hc : X.calm = true) (hg : Gl X "max") (hm : X.mg "max" = none) (ha : QA cl W X [a] (eArgs fs)) (he : starEach [a] X.env = (false, eval a X.env) :: starEach [] X.env := by rfl) (hpl : (backTo pos (starEach [] X.env)).any (·.1) = false := by rfl) :
    QE cl W X (.Call (.Name "max" p) [a] [] pos) (eCall mxP fs) := qe_callB (cr_mxP hc (units65 hr)) ok_mxP hg hm (by decide +kernel) ha (by decide) (by decide) he hpl
end
end Pu
set_option Elab.async false
set_option linter.all false
set_option maxRecDepth 100000
namespace Pu
open PySem PySem.Spec PyProof.Rows L2
section
variable {X : Cx} {pins : List (Addr × Obj)} {σ : L2.St} {H : Hp} {s : Shared}
theorem TupAt.plain {am : AM} {a : Addr} {vs : List V} (J : Inv X pins σ H s) (h : TupAt X.K am H a vs) : ∃ its : List Value, Vals vs its ∧ vs.length ≤ sizeLine ∧ PlainSeq "tuple" s.heap a its.toArray := by
  rcases h with ⟨o, h, d, _⟩ | ⟨o, its, n, hk, hc, hd, hs, z, r⟩
  · obtain ⟨e, z, its, r, o', e', c, n, t⟩ := J.hok a _ h
    rw [e] at e'
    cases e'
    exact ⟨its, r, z, o, n, e, c, d, t⟩
  · refine ⟨its.toList, r, ?_, o, n, J.kIn a o hk, hc, hd, by simpa using hs⟩
    have := r.length
    simp only [Array.length_toList] at this
    omega
theorem prs_of (J : Inv X pins σ H s) : ∀ {ps : List Addr} {kvs : List (Key × V)}, Paired (fun p kv => SqT X.K H p [kV kv.1, kv.2]) ps kvs →
    ∃ (prs : List (Key × Value)) (vv : List (Value × Value)), KV kvs prs ∧ prs.length = ps.length ∧ vv.length = ps.length ∧
      ∀ (j : Nat) (k v : Value), vv[j]? = some (k, v) → (∃ b, ps[j]? = some b ∧ IsTup s.heap b #[k, v]) ∧ ∃ q, prs[j]? = some (q, v) ∧ (mixKind X.prog X.w).is q k = true
  | _, _, .nil => ⟨[], [], .nil, rfl, rfl, fun j k v e => by simp at e⟩
  | _, _, .cons (a := p) (b := kv) h t => by
    obtain ⟨prs, vv, rel, l1, l2, hv⟩ := prs_of J t
    obtain ⟨its, rv, ht, _⟩ := J.tuple h
    cases rv with
    | cons r1 rv =>
      cases rv with
      | cons r2 rv =>
        cases rv
        rename_i u y
        refine ⟨(kv.1, y) :: prs, (u, y) :: vv, .cons ⟨rfl, r2⟩ rel, by simp [l1], by simp [l2], fun j k v e => ?_⟩
        cases j with
        | zero =>
          simp at e
          obtain ⟨rfl, rfl⟩ := e
          exact ⟨⟨p, rfl, ht⟩, kv.1, rfl, kV_is (P := X.prog) (w := X.w) r1⟩
        | succ j => exact hv j k v (by simpa using e)
def rDctP (K : PySem.W.Frag) : List V → Hp → VK → Prop := fun xs H Q => ∃ (am : AM) (a : Addr) (ps : List Addr) (kvs : List (Key × V)), xs = [V.ref a] ∧ TupAt K am H a (ps.map V.ref) ∧ Paired (fun p kv => SqT K H p [kV kv.1, kv.2]) ps kvs ∧
  ∀ p, H p = none → Q (.ref p) (upd H p (.dK (mergeK [] kvs)))
theorem cr_dctP (hc : X.calm = true) : CallR X (.type "dict") (rDctP X.K) := by
  intro pins s σ H xs us Q J r h
  obtain ⟨am, a, ps, kvs, rfl, ht, hp, q⟩ := h
  rw [Vals.ref1 r]
  obtain ⟨its, rv, z, pl⟩ := ht.plain J
  have ei := refs_at rv
  subst ei
  obtain ⟨prs, vv, rel, l1, l2, hv⟩ := prs_of J hp
  rw [List.length_map] at z
  refine PySem.call_dict_pairs (knd := mixKind X.prog X.w) (kvs := prs) (PairArg.tuple a (ps.map Value.ref).toArray (fun j => (ps[j]?).getD 0) vv) (J.ok.hd hc) ⟨pl, by simp [l2], fun j k v e => ?_⟩ ⟨by rw [l1, l2], fun j k v e => ?_⟩ (by rw [l2]; exact z) fun h' tk hd' hk => ?_
  · obtain ⟨⟨b, e1, e2⟩, _⟩ := hv j k v e
    exact ⟨by simp [e1], .inl (by simp only [e1, Option.getD_some]; exact e2)⟩
  · obtain ⟨_, q, e1, e2⟩ := hv j k v e
    exact ⟨q, e1, e2⟩
  · have hm : (s.heap.objs.size == sysModules) = false := beq_eq_false_iff_ne.mpr (Nat.ne_of_gt J.big)
    have hl : (mergeK [] kvs).length ≤ sizeLine := by
      have := length_mergeK kvs []
      have := rel.length
      rw [List.length_nil] at *
      omega
    exact ⟨.ref _, _, J.laid (t' := tk) (o := .dK (mergeK [] kvs)) (fun b o e => hk b o (fun z => nomatch z) e) (Nat.le_refl _) ⟨hl, hm, _, KV.merge rel .nil, hd'⟩, rfl, q _ (J.hok.fresh (Nat.le_refl _))⟩
end
def prsK : List D → Option (List (Key × D))
  | [] => some []
  | .tup [k, v] :: xs => (keyOf k).bind fun q => (prsK xs).map ((q, v) :: ·)
  | _ :: _ => none
def mrgD (kvs more : List (Key × D)) : List (Key × D) := more.foldl (fun acc kv => putD acc kv.1 kv.2) kvs
def dctP (d : D) (S : Sto) : Res DO := match d with
  | .tup xs => match prsK xs with
    | some kvs => .ok (.dct (mrgD [] kvs)) S
    | none => .bad
  | _ => .bad
def nDctP (f : Ev D) : Ev DO := fun e S => (f e S).bind dctP
section
variable {K : PySem.W.Frag} {am : AM} {H : Hp}
theorem prsK_ok : ∀ {xs : List D} {vs : List V} {ks : List (Key × D)}, VRs K am H xs vs → prsK xs = some ks → ∃ (ps : List Addr) (kvs : List (Key × V)), vs = ps.map V.ref ∧ Paired (fun p kv => SqT K H p [kV kv.1, kv.2]) ps kvs ∧ VRk K am H ks kvs
  | _, _, _, .nil, e => by cases e; exact ⟨[], [], rfl, .nil, .nil⟩
  | _, _, ks, .cons (ds := ds) h t, e => by
    cases h with
    | @tup a us es h1 h2 =>
      cases h2 with
      | nil => simp [prsK] at e
      | cons r1 h2 =>
        cases h2 with
        | nil => simp [prsK] at e
        | cons r2 h2 =>
          cases h2 with
          | cons _ _ => simp [prsK] at e
          | nil =>
            simp only [prsK] at e
            rename_i d1 v1 d2 v2
            cases e1 : keyOf d1 with
            | none => rw [e1] at e; cases e
            | some q =>
              rw [e1, Option.bind_some] at e
              cases e2 : prsK ds with
              | none => rw [e2] at e; cases e
              | some ks' =>
                rw [e2] at e
                cases e
                obtain ⟨ps, kvs, ev, hp, hk⟩ := prsK_ok t e2
                subst ev
                have e3 := keyOf_ok r1 e1
                subst e3
                exact ⟨a :: ps, (q, v2) :: kvs, rfl, .cons h1.seq hp, .cons r2 hk⟩
    | _ => simp [prsK] at e
theorem mrg_ok : ∀ {ms : List (Key × D)} {mv : List (Key × V)} {ks : List (Key × D)} {kv : List (Key × V)}, VRk K am H ms mv → VRk K am H ks kv → VRk K am H (mrgD ks ms) (mergeK kv mv)
  | _, _, _, _, .nil, h => h
  | _, _, ks, kv, .cons (k := k) (d := d) (v := v) (ds := ds) (vs := vs) h t, h' => by
    show VRk K am H (mrgD (putD ks k d) ds) (mergeK (putK kv k v) vs)
    exact mrg_ok t (h'.put _ h)
end
section
variable {cl : Str → Addr} {W : WX} {X : Cx} {a b : Expr} {f g : Ev D} {p pos apos cpos : Pos}
theorem qn_dctP (hc : X.calm = true) (hg : Gl X "dict") (hm : X.mg "dict" = none) (ha : QE cl W X a f)
    (h0 : starEach [a] X.env = (false, eval a X.env) :: starEach [] X.env := by rfl) (hpl : (backTo pos (starEach [] X.env)).any (·.1) = false := by rfl) :
    QN cl W X (.Call (.Name "dict" p) [a] [] pos) (nDctP f) :=
  (pe_callTy (cr_dctP hc) hg hm (by decide +kernel) (pa_cons ha pa_nil h0) (by decide) (by decide) h0 hpl).imp fun σ H Q ⟨am, e, S, rs, re, q0⟩ =>
    ⟨am, e, S, rs, re, (PostN.step q0).imp fun v H1 ⟨am1, S1, d, _, g1, rs1, rv, q1⟩ => by
      cases rv with
      | @tup l us xs h1 h2 =>
        simp only [dctP] at q1
        cases e1 : prsK xs with
        | none => rw [e1] at q1; exact q1.elim
        | some ks =>
          rw [e1] at q1
          obtain ⟨ps, kvs, ev, hp, hk⟩ := prsK_ok h2 e1
          subst ev
          refine ⟨am1, l, ps, kvs, rfl, h1, hp, fun p' hp' => PostN.laid q1 g1 rs1 hp' ⟨_, upd_same, ?_⟩⟩
          exact (mrg_ok hk .nil).mono (Grow.resv hp')
      | _ => exact q1.elim⟩
/-- o.setdefault(i, []) -/
def setd (o i : D) (S : Sto) : Res D := match o with
  | .ref n => match S[n]? with
    | some (.dct kvs) => match keyOf i with
      | some k => if kvs.length < sizeLine then match getK kvs k with
        | some d => .ok d S
        | none => .ok (.ref S.length) ((S ++ [DO.lst []]).set n (DO.dct (putD kvs k (.ref S.length)))) else .bad
      | none => .bad
    | _ => .bad
  | _ => .bad
def eSd (f g : Ev D) : Ev D := fun e S => (f e S).bind fun o S => if (dcOf S o).isSome = true then (g e S).bind fun i S => setd o i S else .bad
theorem qe_setd {p5 : Pos} (ho : QE cl W X a f) (hi : QE cl W X b g)
    (m1 : attributeBase a "setdefault" X.env (eval a X.env) = eval a X.env := by rfl)
    (m2 : ((backTo cpos (starEach [b, .List [] p5] X.env)).all (fun x => !x.1) && (backToKw cpos (keywordEach [] X.env)).all (fun x => x.1.isSome) && decide (([b, .List [] p5] : List Expr).length + ([] : List Keyword).length + (if ([] : List Keyword).isEmpty then 0 else 1) < 30)) = true := by rfl)
    (m3 : (apos.endLine == cpos.line) = true := by rfl) (m4 : backTo cpos (starEach [b, .List [] p5] X.env) = [(false, eval b X.env), (false, eval (.List [] p5) X.env)] := by rfl) :
    QE cl W X (.Call (.Attribute a "setdefault" apos) [b, .List [] p5] [] cpos) (eSd f g) :=
  (pe_dsetd ho hi (pe_lst pa_nil) ⟨m1, m2, m3, m4⟩).imp fun σ H Q ⟨am, e, S, rs, re, q0⟩ =>
    ⟨am, e, S, rs, re, (Post.step q0).imp fun x H1 ⟨am1, S1, d1, _, g1, rs1, rv1, q1⟩ => by
      cases e1 : dcOf S1 d1 with
      | none => simp only [e1] at q1; exact q1.elim
      | some kvs0 =>
        simp only [e1, Option.isSome_some, if_true] at q1
        obtain ⟨l, us0, ev, h1, h2⟩ := dcOf_ok rs1 rv1 e1
        subst ev
        refine ⟨l, rfl, .inl ⟨us0, .inl h1⟩, am1, e, S1, rs1, re.mono g1, (Post.step q1).imp fun y H2 ⟨am2, S2, d2, _, g2, rs2, rv2, q2⟩ => ?_⟩
        refine ⟨by decide +kernel, fun q hq => ?_⟩
        have rv1' := rv1.mono g2
        cases rv1' with
        | @ref n a' hn =>
          unfold setd at q2
          simp only at q2
          cases e2 : S2[n]? with
          | none => rw [e2] at q2; exact q2.elim
          | some ob =>
            rw [e2] at q2
            cases ob with
            | dct kvs =>
              simp only at q2
              cases e3 : keyOf d2 with
              | none => rw [e3] at q2; exact q2.elim
              | some k =>
                rw [e3] at q2
                simp only at q2
                obtain ⟨us, h3, h4⟩ := rs2.ob n _ l e2 hn
                have hlq : l ≠ q := ne_of_none h3 hq
                have ek := keyOf_ok rv2 e3
                have hlen : kvs.length = us.length := h4.length
                by_cases hz : kvs.length < sizeLine
                · rw [if_pos hz] at q2
                  rcases h4.get k with ⟨n1, n2⟩ | ⟨d, v, n1, n2, n3⟩
                  · rw [n1] at q2
                    refine ⟨us, k, by rw [upd_ne hlq]; exact h3, ek, by omega, fun v hv => by (rw [n2] at hv; cases hv), fun _ => ?_⟩
                    have hnq : q ∉ am2.ad := fun z => (rs2.new hq) (am2.sub q z)
                    have g3 : Grow am2 ((am2.resv q).push q List.mem_cons_self) H2 (upd H2 q (.lst [])) := (Grow.resv hq).push List.mem_cons_self hq
                    have r3 : RelS X.K cl ((am2.resv q).push q List.mem_cons_self) (S2 ++ [DO.lst []]) (upd H2 q (.lst [])) := (rs2.resv hq).push List.mem_cons_self hnq ⟨[], upd_same, .nil⟩
                    have hn3 : ((am2.resv q).push q List.mem_cons_self).ad[n]? = some l := g3.get hn
                    have hq3 : ((am2.resv q).push q List.mem_cons_self).ad[S2.length]? = some q := by
                      show (am2.ad ++ [q])[S2.length]? = some q
                      rw [← rs2.len, List.getElem?_append_right (Nat.le_refl _), Nat.sub_self]
                      rfl
                    have hm : l ∈ ((am2.resv q).push q List.mem_cons_self).ad := List.mem_of_getElem? hn3
                    have gp := Grow.put (H := upd H2 q (.lst [])) (o := .dK (putK us k (.ref q))) hm
                    have vq : VR X.K ((am2.resv q).push q List.mem_cons_self) (upd (upd H2 q (.lst [])) l (.dK (putK us k (.ref q)))) (.ref S2.length) (.ref q) := .ref hq3
                    have ho : OR X.K cl ((am2.resv q).push q List.mem_cons_self) (upd (upd H2 q (.lst [])) l (.dK (putK us k (.ref q)))) l (.dct (putD kvs k (.ref S2.length))) := ⟨_, upd_same, ((h4.mono g3).mono gp).put k vq⟩
                    exact q2 _ _ _ (g3.trans gp) (r3.put hn3 ho) vq
                  · rw [n1] at q2
                    refine ⟨us, k, by rw [upd_ne hlq]; exact h3, ek, by omega, fun v' hv => ?_, fun hv => by (rw [n2] at hv; cases hv)⟩
                    rw [n2] at hv
                    cases hv
                    exact q2 am2 _ _ (Grow.upd hq) (rs2.upd hq) (n3.mono (Grow.upd hq))
                · rw [if_neg hz] at q2
                  exact q2.elim
            | _ => exact q2.elim
        | _ => exact q2.elim⟩
end
section
variable {f g : Ev D} {e : En} {S : Sto}
theorem ap_Sd : eSd f g e S = (f e S).bind fun o S => if (dcOf S o).isSome = true then (g e S).bind fun i S => setd o i S else .bad := id rfl
theorem ap_nDctP : nDctP f e S = (f e S).bind dctP := id rfl
end
end Pu
set_option Elab.async false
set_option linter.all false
set_option maxRecDepth 100000
set_option maxHeartbeats 1000000
namespace Pu
open PySem PySem.Spec PyProof.Rows L2
open PySem.Sem (wp)
/-- an iterator at i over what stands at l: where it stands, what the next one is -/
structure NxI (i l : Addr) (N : Nat → Heap → Prop) (xs : Array Value) : Prop where
  keep : ∀ {k : Nat} {h h' : Heap}, N k h → (∀ c o, c = i ∨ c = l → h.get? c = some o → h'.get? c = some o) → N k h'
  item : ∀ {prog : Program} {w : World} {A : Around} {s : Shared} {k : Nat} {x : Value} {Q : Value → Shared → Prop} {E : Value → Shared → Prop}, N k s.heap → xs[k]? = some x →
    (∀ h', N (k + 1) h' → Heap.SameBut i s.heap h' → Q x { s with heap := h' }) → wpAny (model prog w) A (Builtin.SmallTypes.nextOf (.ref i)) Q E s
  stop : ∀ {prog : Program} {w : World} {A : Around} {s : Shared} {k : Nat} {Q : Value → Shared → Prop} {E : Value → Shared → Prop}, A.handled = none → N k s.heap → xs[k]? = none →
    (∀ h' e, Heap.ExtBut i s.heap h' → (∃ o, h'.get? e = some o ∧ o.cls = .type "StopIteration") → E (.ref e) { s with heap := h' }) → wpAny (model prog w) A (Builtin.SmallTypes.nextOf (.ref i)) Q E s
theorem nxT {i l : Addr} {xs : Array Value} (ne : l ≠ i) : NxI i l (fun k h => h.IsTupleIter i l k ∧ h.IsTuple l xs) xs where
  keep := fun ⟨a, b⟩ k => ⟨a.at fun o e => k i o (.inl rfl) e, b.at fun o e => k l o (.inr rfl) e⟩
  item := fun ⟨a, b⟩ hx q => RZ.nextOf_tuple_item a b hx fun h' a' hs => q h' ⟨a', b.extBut hs.extBut ne⟩ hs
  stop := fun hh ⟨a, b⟩ hx q => RZ.nextOf_tuple_end hh a b hx q
theorem nxL {i l : Addr} {xs : Array Value} (ne : l ≠ i) : NxI i l (fun k h => h.IsListIter i l k ∧ h.IsList l xs) xs where
  keep := fun ⟨a, b⟩ k => ⟨a.at fun o e => k i o (.inl rfl) e, b.at fun o e => k l o (.inr rfl) e⟩
  item := fun ⟨a, b⟩ hx q => wpAny_nextOf_list_item a b hx fun h' a' hs => q h' ⟨a', b.extBut hs.extBut ne⟩ hs
  stop := fun hh ⟨a, b⟩ hx q => wpAny_nextOf_list_end hh a b hx q
section
variable {prog : Program} {w : World} {A : Around} {E : Value → Shared → Prop} {s : Shared}
variable {z TI TO i1 i2 l1 l2 : Addr} {k1 k2 : Nat} {xs ys : Array Value} {x y a b : Value} {N1 N2 : Nat → Heap → Prop}
theorem zipN_item (J1 : NxI i1 l1 N1 xs) (J2 : NxI i2 l2 N2 ys) {Q : Value → Shared → Prop} (D : ZipApart z TI TO i1 i2 l1 l2)
    (hz : IsZip s.heap z TI TO .none) (hTI : IsPair s.heap TI (.ref i1) (.ref i2)) (hTO : IsPair s.heap TO a b)
    (h1 : N1 k1 s.heap) (h2 : N2 k2 s.heap) (hx : xs[k1]? = some x) (hy : ys[k2]? = some y)
    (hQ : ∀ h', IsZip h' z TI TO (rawInt s.heap.objs.size) → IsPair h' TO x y → N1 (k1 + 1) h' → N2 (k2 + 1) h' → IsPair h' s.heap.objs.size x y → h'.objs.size = s.heap.objs.size + 1 →
      (∀ c o, c ≠ z → c ≠ TO → c ≠ i1 → c ≠ i2 → s.heap.get? c = some o → h'.get? c = some o) → Q (.ref s.heap.objs.size) { s with heap := h' }) :
    wpAny (model prog w) A (Builtin.«zip.__next__» ⟨[.ref z], []⟩) (fun fin s' => ∃ v, fin = .done (.ret v) ∧ Q v s') E s := by
  show wpAny _ _ (field (.ref z) 2 >>= _) _ _ _
  refine wpAny_bind (wpAny_field hz rfl (x := .bool false) rfl ?_)
  show wpAny _ _ (field (.ref z) 3 >>= _) _ _ _
  refine wpAny_bind (wpAny_field hz rfl (x := .ref TI) rfl ?_)
  refine wpAny_bind (wpAny_seqItems hTI rfl ?_)
  show wpAny _ _ (Builtin.SmallTypes.ownedTupleIsFree (.ref z) >>= _) _ _ _
  refine wpAny_bind ?_
  unfold Builtin.SmallTypes.ownedTupleIsFree
  refine wpAny_bind (wpAny_field hz rfl (x := .none) rfl (wpAny_pure ?_))
  simp only [if_true]
  refine wpAny_bind (wpAny_rule ?_)
  refine wpAny_bind (wpAny_field hz rfl (x := .ref TO) rfl ?_)
  refine wpAny_bind (wpAny_setField_rec hz (by simp) fun g1 q1 s1 => ?_)
  replace q1 : IsZip g1 z TI TO .ellipsis := q1
  refine wpAny_bind ?_
  simp only [List.zipIdx_cons, List.zipIdx_nil, List.forIn_cons, List.forIn_nil]
  refine wpAny_bind (wpAny_bind (wpAny_onRaise ?_))
  show wpAny _ _ (Builtin.SmallTypes.nextOf (.ref i1) >>= _) _ _ _
  have a1 : N1 k1 g1 := J1.keep h1 fun c o hc e => s1.extBut _ _ (by rcases hc with rfl | rfl; exact D.i1z; exact D.l1z) e
  have b1 : N2 k2 g1 := J2.keep h2 fun c o hc e => s1.extBut _ _ (by rcases hc with rfl | rfl; exact D.i2z; exact D.l2z) e
  refine wpAny_bind (J1.item (s := { s with heap := g1 }) a1 hx fun g2 a2 s2 => wpAny_pure ?_)
  have b2 : N2 k2 g2 := J2.keep b1 fun c o hc e => s2.extBut _ _ (by rcases hc with rfl | rfl; exact D.i12.symm; exact D.l2i1) e
  have t2 : IsPair g2 TO a b := s2.extBut _ _ D.TOi1 (s1.extBut _ _ D.TOz hTO)
  refine wpAny_bind (wpAny_seqItems t2 rfl ?_)
  refine wpAny_bind (wpAny_updateSeq_pair t2 fun g3 t3 s3 => ?_)
  replace t3 : IsPair g3 TO x b := t3
  refine wpAny_bind (wpAny_letGo (wpAny_pure ?_))
  refine wpAny_bind (wpAny_bind (wpAny_onRaise ?_))
  show wpAny _ _ (Builtin.SmallTypes.nextOf (.ref i2) >>= _) _ _ _
  have a3 : N1 (k1 + 1) g3 := J1.keep a2 fun c o hc e => s3.extBut _ _ (by rcases hc with rfl | rfl; exact D.TOi1.symm; exact D.l1TO) e
  have b3 : N2 k2 g3 := J2.keep b2 fun c o hc e => s3.extBut _ _ (by rcases hc with rfl | rfl; exact D.TOi2.symm; exact D.l2TO) e
  refine wpAny_bind (J2.item (s := { s with heap := g3 }) b3 hy fun g4 b4 s4 => wpAny_pure ?_)
  have a4 : N1 (k1 + 1) g4 := J1.keep a3 fun c o hc e => s4.extBut _ _ (by rcases hc with rfl | rfl; exact D.i12; exact D.l1i2) e
  have t4 : IsPair g4 TO x b := s4.extBut _ _ D.TOi2 t3
  refine wpAny_bind (wpAny_seqItems t4 rfl ?_)
  refine wpAny_bind (wpAny_updateSeq_pair t4 fun g5 t5 s5 => ?_)
  replace t5 : IsPair g5 TO x y := t5
  refine wpAny_bind (wpAny_letGo (wpAny_pure (wpAny_pure ?_)))
  have a5 : N1 (k1 + 1) g5 := J1.keep a4 fun c o hc e => s5.extBut _ _ (by rcases hc with rfl | rfl; exact D.TOi1.symm; exact D.l1TO) e
  have b5 : N2 (k2 + 1) g5 := J2.keep b4 fun c o hc e => s5.extBut _ _ (by rcases hc with rfl | rfl; exact D.TOi2.symm; exact D.l2TO) e
  refine wpAny_bind (wpAny_seqItems t5 rfl ?_)
  refine wpAny_bind (wpAny_newTuple ?_)
  have hsz : g5.objs.size = s.heap.objs.size := by rw [s5.1, s4.1, s3.1, s2.1, s1.1]
  have q5 : IsZip g5 z TI TO .ellipsis := s5.extBut _ _ D.TOz.symm (s4.extBut _ _ D.i2z.symm (s3.extBut _ _ D.TOz.symm (s2.extBut _ _ D.i1z.symm q1)))
  have k5 : ∀ c o, c ≠ z → c ≠ TO → c ≠ i1 → c ≠ i2 → s.heap.get? c = some o → g5.get? c = some o := fun c o c1 c2 c3 c4 e =>
    s5.extBut _ _ c2 (s4.extBut _ _ c4 (s3.extBut _ _ c2 (s2.extBut _ _ c3 (s1.extBut _ _ c1 e))))
  have hzlt : z < g5.objs.size := Heap.lt_size q5
  show wpAny _ _ (Builtin.SmallTypes.ownedTupleHandOut (.ref z) (.ref g5.objs.size) >>= _) _ _ _
  refine wpAny_bind ?_
  unfold Builtin.SmallTypes.ownedTupleHandOut
  have q6 : IsZip (g5.push { cls := .type "tuple", data := .seq #[x, y] }) z TI TO .ellipsis := Heap.get?_push_of_some _ q5
  refine wpAny_bind (wpAny_setField_rec q6 (by simp) fun g7 q7 s7 => ?_)
  replace q7 : IsZip g7 z TI TO (rawInt g5.objs.size) := q7
  refine wpAny_setField_rec q7 (by simp) fun g8 q8 s8 => ?_
  replace q8 : IsZip g8 z TI TO (rawInt g5.objs.size) := q8
  have up : ∀ c o, c ≠ z → g5.get? c = some o → g8.get? c = some o := fun c o c1 e => s8.extBut _ _ c1 (s7.extBut _ _ c1 (Heap.get?_push_of_some _ e))
  have t8 : IsPair g8 g5.objs.size x y := s8.extBut _ _ (Nat.ne_of_gt hzlt) (s7.extBut _ _ (Nat.ne_of_gt hzlt) (Heap.get?_push_size _ rfl))
  have z8 : g8.objs.size = g5.objs.size + 1 := by rw [s8.1, s7.1, Heap.size_push]
  rw [hsz] at q8 t8 z8
  refine wpAny_pure ⟨_, rfl, ?_⟩
  show Q (.ref g5.objs.size) _
  rw [hsz]
  exact hQ g8 q8 (up _ _ D.TOz t5) (J1.keep a5 fun c o hc e => up c o (by rcases hc with rfl | rfl; exact D.i1z; exact D.l1z) e) (J2.keep b5 fun c o hc e => up c o (by rcases hc with rfl | rfl; exact D.i2z; exact D.l2z) e) t8 z8 fun c o c1 c2 c3 c4 e => up c o c1 (k5 c o c1 c2 c3 c4 e)
theorem zipN_end (J1 : NxI i1 l1 N1 xs) (J2 : NxI i2 l2 N2 ys) {Q : Fin → Shared → Prop} (hh : A.handled = none) (D : ZipApart z TI TO i1 i2 l1 l2)
    (hz : IsZip s.heap z TI TO .none) (hTI : IsPair s.heap TI (.ref i1) (.ref i2)) (hTO : IsPair s.heap TO a b)
    (h1 : N1 k1 s.heap) (h2 : N2 k2 s.heap) (hend : xs[k1]? = none ∨ ys[k2]? = none)
    (hE : ∀ h' e, (∀ c o, c ≠ z → c ≠ TO → c ≠ i1 → c ≠ i2 → s.heap.get? c = some o → h'.get? c = some o) → (∃ o, h'.get? e = some o ∧ o.cls = .type "StopIteration") → E (.ref e) { s with heap := h' }) :
    wpAny (model prog w) A (Builtin.«zip.__next__» ⟨[.ref z], []⟩) Q E s := by
  show wpAny _ _ (field (.ref z) 2 >>= _) _ _ _
  refine wpAny_bind (wpAny_field hz rfl (x := .bool false) rfl ?_)
  show wpAny _ _ (field (.ref z) 3 >>= _) _ _ _
  refine wpAny_bind (wpAny_field hz rfl (x := .ref TI) rfl ?_)
  refine wpAny_bind (wpAny_seqItems hTI rfl ?_)
  show wpAny _ _ (Builtin.SmallTypes.ownedTupleIsFree (.ref z) >>= _) _ _ _
  refine wpAny_bind ?_
  unfold Builtin.SmallTypes.ownedTupleIsFree
  refine wpAny_bind (wpAny_field hz rfl (x := .none) rfl (wpAny_pure ?_))
  simp only [if_true]
  refine wpAny_bind (wpAny_rule ?_)
  refine wpAny_bind (wpAny_field hz rfl (x := .ref TO) rfl ?_)
  refine wpAny_bind (wpAny_setField_rec hz (by simp) fun g1 q1 s1 => ?_)
  replace q1 : IsZip g1 z TI TO .ellipsis := q1
  refine wpAny_bind ?_
  simp only [List.zipIdx_cons, List.zipIdx_nil, List.forIn_cons, List.forIn_nil]
  refine wpAny_bind (wpAny_bind (wpAny_onRaise ?_))
  show wpAny _ _ (Builtin.SmallTypes.nextOf (.ref i1) >>= _) _ _ _
  have a1 : N1 k1 g1 := J1.keep h1 fun c o hc e => s1.extBut _ _ (by rcases hc with rfl | rfl; exact D.i1z; exact D.l1z) e
  have b1 : N2 k2 g1 := J2.keep h2 fun c o hc e => s1.extBut _ _ (by rcases hc with rfl | rfl; exact D.i2z; exact D.l2z) e
  cases hx : xs[k1]? with
  | none =>
    refine wpAny_bind (J1.stop (s := { s with heap := g1 }) hh a1 hx fun g2 e s2 he => ?_)
    obtain ⟨oe, hoe, hce⟩ := he
    have q2 : IsZip g2 z TI TO .ellipsis := s2 _ _ D.i1z.symm q1
    have hez : e ≠ z := fun x => by subst x; rw [q2] at hoe; cases hoe; simp at hce
    refine wpAny_setField_rec q2 (by simp) fun g3 _ s3 => hE g3 e (fun c o c1 _ c3 _ x => s3.extBut _ _ c1 (s2 _ _ c3 (s1.extBut _ _ c1 x))) ⟨oe, s3.extBut _ _ hez hoe, hce⟩
  | some x =>
    have hy : ys[k2]? = none := by rcases hend with h | h; rw [hx] at h; cases h; exact h
    refine wpAny_bind (J1.item (s := { s with heap := g1 }) a1 hx fun g2 a2 s2 => wpAny_pure ?_)
    have b2 : N2 k2 g2 := J2.keep b1 fun c o hc e => s2.extBut _ _ (by rcases hc with rfl | rfl; exact D.i12.symm; exact D.l2i1) e
    have t2 : IsPair g2 TO a b := s2.extBut _ _ D.TOi1 (s1.extBut _ _ D.TOz hTO)
    refine wpAny_bind (wpAny_seqItems t2 rfl ?_)
    refine wpAny_bind (wpAny_updateSeq_pair t2 fun g3 t3 s3 => ?_)
    refine wpAny_bind (wpAny_letGo (wpAny_pure ?_))
    refine wpAny_bind (wpAny_bind (wpAny_onRaise ?_))
    show wpAny _ _ (Builtin.SmallTypes.nextOf (.ref i2) >>= _) _ _ _
    have b3 : N2 k2 g3 := J2.keep b2 fun c o hc e => s3.extBut _ _ (by rcases hc with rfl | rfl; exact D.TOi2.symm; exact D.l2TO) e
    refine wpAny_bind (J2.stop (s := { s with heap := g3 }) hh b3 hy fun g4 e s4 he => ?_)
    obtain ⟨oe, hoe, hce⟩ := he
    have q4 : IsZip g4 z TI TO .ellipsis := s4 _ _ D.i2z.symm (s3.extBut _ _ D.TOz.symm (s2.extBut _ _ D.i1z.symm q1))
    have hez : e ≠ z := fun x => by subst x; rw [q4] at hoe; cases hoe; simp at hce
    refine wpAny_setField_rec q4 (by simp) fun g5 _ s5 => hE g5 e (fun c o c1 c2 c3 c4 x => s5.extBut _ _ c1 (s4 _ _ c4 (s3.extBut _ _ c2 (s2.extBut _ _ c3 (s1.extBut _ _ c1 x))))) ⟨oe, s5.extBut _ _ hez hoe, hce⟩
theorem pyNext_zipN (J1 : NxI i1 l1 N1 xs) (J2 : NxI i2 l2 N2 ys) {Q : Option Value → Shared → Prop} (D : ZipApart z TI TO i1 i2 l1 l2)
    (hz : IsZip s.heap z TI TO .none) (hTI : IsPair s.heap TI (.ref i1) (.ref i2)) (hTO : IsPair s.heap TO a b)
    (h1 : N1 k1 s.heap) (h2 : N2 k2 s.heap) (hx : xs[k1]? = some x) (hy : ys[k2]? = some y)
    (hQ : ∀ h', IsZip h' z TI TO (rawInt s.heap.objs.size) → IsPair h' TO x y → N1 (k1 + 1) h' → N2 (k2 + 1) h' → IsPair h' s.heap.objs.size x y → h'.objs.size = s.heap.objs.size + 1 →
      (∀ c o, c ≠ z → c ≠ TO → c ≠ i1 → c ≠ i2 → s.heap.get? c = some o → h'.get? c = some o) → Q (some (.ref s.heap.objs.size)) { s with heap := h' }) :
    wpAny (model prog w) A (pyNext (.ref z)) Q E s := by
  have hT : s.TypeIs (.ref z) "zip" := ⟨_, hz, rfl⟩
  unfold pyNext
  exact wpAny_bind (wpAny_attempt (wpAny_callSpecial?_slot (name := Str.ofString "__next__") hT F.slot_zip_next
    (wpAny_call_entry F.slot_zip_next hT F.entry_zip_next
      (zipN_item J1 J2 D hz hTI hTO h1 h2 hx hy fun h' a1 a2 a3 a4 a5 a6 a7 => wpAny_pure (hQ h' a1 a2 a3 a4 a5 a6 a7)) (F.args_zip_next_1 _))))
theorem pyNext_zipN_end (J1 : NxI i1 l1 N1 xs) (J2 : NxI i2 l2 N2 ys) {Q : Option Value → Shared → Prop} (hh : A.handled = none) (D : ZipApart z TI TO i1 i2 l1 l2)
    (hz : IsZip s.heap z TI TO .none) (hTI : IsPair s.heap TI (.ref i1) (.ref i2)) (hTO : IsPair s.heap TO a b)
    (h1 : N1 k1 s.heap) (h2 : N2 k2 s.heap) (hend : xs[k1]? = none ∨ ys[k2]? = none)
    (hQ : ∀ h', (∀ c o, c ≠ z → c ≠ TO → c ≠ i1 → c ≠ i2 → s.heap.get? c = some o → h'.get? c = some o) → Q none { s with heap := h' }) : wpAny (model prog w) A (pyNext (.ref z)) Q E s := by
  have hT : s.TypeIs (.ref z) "zip" := ⟨_, hz, rfl⟩
  unfold pyNext
  refine wpAny_bind (wpAny_attempt (wpAny_callSpecial?_slot (name := Str.ofString "__next__") hT F.slot_zip_next
    (wpAny_call_entry F.slot_zip_next hT F.entry_zip_next (zipN_end J1 J2 hh D hz hTI hTO h1 h2 hend fun h' e hk he => ?_) (F.args_zip_next_1 _))))
  obtain ⟨o, ho, hc⟩ := he
  refine wpAny_bind (wpAny_isInstance (T := "StopIteration") (b := true) ⟨o, ho, hc⟩ isSubtype_stop ?_)
  exact wpAny_pure (hQ _ hk)
end
section
variable {prog : Program} {w : World} {A : Around} {E : Value → Shared → Prop} {s : Shared}
def zmO1 (h : Heap) (l1 : Addr) : Heap := h.push { cls := .type "tuple_iterator", data := .fields #[.ref l1, .int 0 0] }
def zmO2 (h : Heap) (l1 l2 : Addr) : Heap := (zmO1 h l1).push { cls := .type "list_iterator", data := .fields #[.ref l2, .int 0 0] }
def zmO3 (h : Heap) (l1 l2 : Addr) : Heap := (zmO2 h l1 l2).push { cls := .type "tuple", data := .seq #[.ref h.objs.size, .ref (zmO1 h l1).objs.size] }
def zmO4 (h : Heap) (l1 l2 : Addr) : Heap := (zmO3 h l1 l2).push { cls := .type "tuple", data := .seq #[.none, .none] }
def zmO5 (h : Heap) (l1 l2 : Addr) : Heap := (zmO4 h l1 l2).push { cls := .type "zip", data := .fields #[.none, .bool false, .bool false, .ref (zmO2 h l1 l2).objs.size, .ref (zmO3 h l1 l2).objs.size] }
theorem meets_zipM (l1 l2 : Addr) (xs ys : Array Value) :
    Meets (Builtin.«zip.__new__» ⟨[.type "zip", .ref l1, .ref l2], []⟩) (fun _ R s => s.heap.IsTuple l1 xs ∧ s.heap.IsList l2 ys ∧
      R (.ok (.ret (.ref (zmO4 s.heap l1 l2).objs.size))) { s with heap := zmO5 s.heap l1 l2 }) :=
  .of_wp fun prog w A R s h => by
    obtain ⟨hp, g, d, tk, os⟩ := s
    obtain ⟨hl1, hl2, h⟩ := h
    have hsub := sub_zip
    have hL1 : Heap.IsTuple (Shared.heap ⟨hp, g, d, tk, os⟩) l1 xs := hl1
    have hL2 : Heap.IsList (Shared.heap ⟨hp.push { cls := .type "tuple_iterator", data := .fields #[.ref l1, .int 0 0] }, g, d, tk, os⟩) l2 ys := Heap.IsList.push hl2 _
    unfold zmO5 zmO4 zmO3 zmO2 zmO1 at h
    wp_walk using wpAny_pyIter_tuple hL1, wpAny_pyIter_list hL2
    exact ⟨_, rfl, h⟩
theorem call_zipM {l1 l2 : Addr} {xs ys : Array Value} {Q : Value → Shared → Prop} (hl1 : s.heap.IsTuple l1 xs) (hl2 : s.heap.IsList l2 ys)
    (h : ∀ h', IsZip h' (s.heap.objs.size + 4) (s.heap.objs.size + 2) (s.heap.objs.size + 3) .none → IsPair h' (s.heap.objs.size + 2) (.ref s.heap.objs.size) (.ref (s.heap.objs.size + 1)) →
      IsPair h' (s.heap.objs.size + 3) .none .none → h'.IsTupleIter s.heap.objs.size l1 0 → h'.IsListIter (s.heap.objs.size + 1) l2 0 → h'.objs.size = s.heap.objs.size + 5 →
      (∀ c o, s.heap.get? c = some o → h'.get? c = some o) → Q (.ref (s.heap.objs.size + 4)) { s with heap := h' }) :
    wpAny (model prog w) A (call (.type "zip") [.ref l1, .ref l2]) Q E s := by
  refine callType_new F.called_zip (by decide) (F.typeCall_zip_2 _ _) (F.newCall_zip_2 _ _) (fun obj => F.args_object_init_3 obj _ _) F.entry_zip_new
    (meets_zipM l1 l2 xs ys) ⟨hl1, hl2, ?_⟩
  have z1 : (zmO1 s.heap l1).objs.size = s.heap.objs.size + 1 := Heap.size_push ..
  have z2 : (zmO2 s.heap l1 l2).objs.size = s.heap.objs.size + 2 := by rw [zmO2, Heap.size_push, z1]
  have z3 : (zmO3 s.heap l1 l2).objs.size = s.heap.objs.size + 3 := by rw [zmO3, Heap.size_push, z2]
  have z4 : (zmO4 s.heap l1 l2).objs.size = s.heap.objs.size + 4 := by rw [zmO4, Heap.size_push, z3]
  have z5 : (zmO5 s.heap l1 l2).objs.size = s.heap.objs.size + 5 := by rw [zmO5, Heap.size_push, z4]
  have g5 : (zmO5 s.heap l1 l2).get? (zmO4 s.heap l1 l2).objs.size = some _ := Heap.get?_push_size _ rfl
  have g4 : (zmO5 s.heap l1 l2).get? (zmO3 s.heap l1 l2).objs.size = some _ := Heap.get?_push_of_some _ (Heap.get?_push_size _ rfl)
  have g3 : (zmO5 s.heap l1 l2).get? (zmO2 s.heap l1 l2).objs.size = some _ := Heap.get?_push_of_some _ (Heap.get?_push_of_some _ (Heap.get?_push_size _ rfl))
  have g2 : (zmO5 s.heap l1 l2).get? (zmO1 s.heap l1).objs.size = some _ := Heap.get?_push_of_some _ (Heap.get?_push_of_some _ (Heap.get?_push_of_some _ (Heap.get?_push_size _ rfl)))
  have g1 : (zmO5 s.heap l1 l2).get? s.heap.objs.size = some _ := Heap.get?_push_of_some _ (Heap.get?_push_of_some _ (Heap.get?_push_of_some _ (Heap.get?_push_of_some _ (Heap.get?_push_size _ rfl))))
  show _ ∧ _
  rw [z2, z3, z4] at g5
  rw [z1, z2] at g3
  rw [z3] at g4
  rw [z1] at g2
  rw [z4]
  exact ⟨⟨_, g5, rfl⟩, h _ g5 g3 g4 ⟨_, g1, rfl, rfl⟩ ⟨_, g2, rfl, rfl⟩ z5 fun c o x =>
    Heap.get?_push_of_some _ (Heap.get?_push_of_some _ (Heap.get?_push_of_some _ (Heap.get?_push_of_some _ (Heap.get?_push_of_some _ x))))⟩
end
/-- the tuple at a, the list at b as they stand at each turn -/
def ItzM (K : PySem.W.Frag) (a b : Addr) : It :=
  ⟨fun i H => ∃ (xs ys : List V) (x y : V), SqT K H a xs ∧ SqL K H b ys ∧ xs[i]? = some x ∧ ys[i]? = some y,
    fun i H v H' => ∃ T x y, v = .ref T ∧ H T = none ∧ H' = upd H T (.tup [x, y]) ∧ (∀ xs, SqT K H a xs → xs[i]? = some x) ∧ ∀ ys, SqL K H b ys → ys[i]? = some y,
    fun i H => ∃ xs ys : List V, SqT K H a xs ∧ SqL K H b ys ∧ (xs.length ≤ i ∨ ys.length ≤ i)⟩
theorem turn_zipM {P : Program} {w : World} {K : PySem.W.Frag} {elts : List Expr} {kk : Nat} {tpos : Pos} {a b z TI TO i1 i2 : Addr} (D : ZipApart z TI TO i1 i2 a b) :
    Turn P w K (.Tuple elts kk tpos) (ItzM K a b) [z, TI, TO, i1, i2] z (fun i h => IsZip h z TI TO .none ∧ IsPair h TI (.ref i1) (.ref i2) ∧ (∃ x y, IsPair h TO x y) ∧ h.IsTupleIter i1 a i ∧ h.IsListIter i2 b i) where
  mem := by simp
  obj := fun i h st c hc => by
    obtain ⟨hz, hTI, ⟨x, y, hTO⟩, ⟨o1, e1, _, d1⟩, ⟨o2, e2, _, d2⟩⟩ := st
    have e' : c = z ∨ c = TI ∨ c = TO ∨ c = i1 ∨ c = i2 := by simpa using hc
    rcases e' with q | q | q | q | q
    · rw [q]; exact ⟨_, hz, (fun v q => nomatch q)⟩
    · rw [q]; exact ⟨_, hTI, (fun v q => nomatch q)⟩
    · rw [q]; exact ⟨_, hTO, (fun v q => nomatch q)⟩
    · rw [q]; exact ⟨o1, e1, fun v q => by rw [d1] at q; cases q⟩
    · rw [q]; exact ⟨o2, e2, fun v q => by rw [d2] at q; cases q⟩
  keep := fun i h h' st k => by
    obtain ⟨hz, hTI, ⟨x, y, hTO⟩, h1, h2⟩ := st
    exact ⟨k z (by simp) _ hz, k TI (by simp) _ hTI, ⟨x, y, k TO (by simp) _ hTO⟩, h1.at fun o q => k i1 (by simp) o q, h2.at fun o q => k i2 (by simp) o q⟩
  item := by
    intro X hP hw hK hc i pins s σ H E I hf st hg
    subst hP hw hK
    obtain ⟨hz, hTI, ⟨x0, y0, hTO⟩, h1, h2⟩ := st
    obtain ⟨xs, ys, x, y, hqx, hqy, hx, hy⟩ := hg
    obtain ⟨its, rv, p, _⟩ := I.tuple hqx
    obtain ⟨its2, rv2, p2, _⟩ := I.list hqy
    obtain ⟨u, hu, ru⟩ := rv.get hx
    obtain ⟨u2, hu2, ru2⟩ := rv2.get hy
    have hzl : z < s.heap.objs.size := Heap.lt_size hz
    refine pyNext_zipN (nxT D.l1i1) (nxL D.l2i2) D hz hTI hTO ⟨h1, p⟩ ⟨h2, p2.isList⟩ (x := u) (y := u2) (by simpa using hu) (by simpa using hu2) fun h' z' TO' h1' h2' hT hsz hk => ?_
    refine ⟨_, rfl, wpAny_letOwnedTupleGo_zip (s := { s with heap := h' }) z' fun h'' z'' sb => ?_⟩
    have hT2 : h''.get? s.heap.objs.size = some { cls := .type "tuple", data := .seq #[u, u2] } := (sb.2 _ (Nat.ne_of_gt hzl)).trans hT
    have new : ObjOk X.prog X.w (upd H s.heap.objs.size (.tup [x, y])) h'' s.heap.objs.size (.tup [x, y]) :=
      ⟨by show 2 ≤ sizeLine; decide, [u, u2], .cons ru (.cons ru2 .nil), ⟨_, hT2, rfl, _, rfl⟩⟩
    have I1 : Inv X pins σ (upd H s.heap.objs.size (.tup [x, y])) { s with heap := h'' } :=
      I.turnedNew (t' := s.toks) (ch := [z, TI, TO, i1, i2]) (fun c o hb q => (sb.2 c (fun q' => hb (by simp [q']))).trans (hk c o (fun q' => hb (by simp [q'])) (fun q' => hb (by simp [q'])) (fun q' => hb (by simp [q'])) (fun q' => hb (by simp [q'])) q)) hf (Nat.le_refl _) new
    refine ⟨.ref s.heap.objs.size, _, I1, rfl, ⟨_, x, y, rfl, I.hok.fresh (Nat.le_refl _), rfl, fun l hl => by rw [I.tuple_inj hl hqx]; exact hx, fun l hl => by rw [I.list_inj hl hqy]; exact hy⟩, ⟨z'', ?_, ⟨u, u2, ?_⟩, ?_, ?_⟩, fun c hcm => ?_⟩
    · exact (sb.2 _ D.TIz).trans (hk _ _ D.TIz D.TITO D.TIi1 D.TIi2 hTI)
    · exact (sb.2 _ D.TOz).trans TO'
    · exact h1'.1.at fun o q => (sb.2 _ D.i1z).trans q
    · exact h2'.1.at fun o q => (sb.2 _ D.i2z).trans q
    · have hlt : c < s.heap.objs.size := by
        have e' : c = z ∨ c = TI ∨ c = TO ∨ c = i1 ∨ c = i2 := by simpa using hcm
        rcases e' with q | q | q | q | q
        · rw [q]; exact hzl
        · rw [q]; exact Heap.lt_size hTI
        · rw [q]; exact Heap.lt_size hTO
        · rw [q]; obtain ⟨_, e1, _⟩ := h1; exact Heap.lt_size e1
        · rw [q]; obtain ⟨_, e2, _⟩ := h2; exact Heap.lt_size e2
      rw [upd_ne (Nat.ne_of_lt hlt)]
      exact (hf c hcm).1
  done := by
    intro X hP hw hK hc i pins s σ H E I hf st hg
    subst hP hw hK
    obtain ⟨hz, hTI, ⟨x0, y0, hTO⟩, h1, h2⟩ := st
    obtain ⟨xs, ys, hqx, hqy, hend⟩ := hg
    obtain ⟨its, rv, p, _⟩ := I.tuple hqx
    obtain ⟨its2, rv2, p2, _⟩ := I.list hqy
    have l1 := rv.length
    have l2 := rv2.length
    have he : its.toArray[i]? = none ∨ its2.toArray[i]? = none := by
      rcases hend with q | q
      · exact .inl (by simp; omega)
      · exact .inr (by simp; omega)
    exact pyNext_zipN_end (nxT D.l1i1) (nxL D.l2i2) (I.ok.hd hc) D hz hTI hTO ⟨h1, p⟩ ⟨h2, p2.isList⟩ he fun h' hk => ⟨rfl, I.turnedL (t' := s.toks) (ch := [z, TI, TO, i1, i2]) (fun c o hb q =>
      hk c o (fun q' => hb (by simp [q'])) (fun q' => hb (by simp [q'])) (fun q' => hb (by simp [q'])) (fun q' => hb (by simp [q'])) q) hf⟩
  self := fun A i s Q E st h => wpAny_pyIter_zip st.1 h
def iZipM (K : PySem.W.Frag) (ta : TA) : TI := fun σ H R => ta σ H fun vs H1 => ∃ a b xs ys, vs = [.ref a, .ref b] ∧ SqT K H1 a xs ∧ SqL K H1 b ys ∧ R (ItzM K a b) H1
theorem pi_zipM {X : Cx} {e e2 : Expr} {ta : TA} {p pos tpos : Pos} {elts : List Expr} {kk : Nat} (hg : Gl X "zip") (hm : X.mg "zip" = none) (ha : PA X [e, e2] ta)
    (hs : starEach [e, e2] X.env = (false, eval e X.env) :: starEach [e2] X.env := by rfl) (hpl : (backTo pos (starEach [e2] X.env)).any (·.1) = false := by rfl) :
    PI X (.Tuple elts kk tpos) (.Call (.Name "zip" p) [e, e2] [] pos) (iZipM X.K ta) := by
  refine ⟨fun pins s σ H R I h => ?_⟩
  refine Call_ (ld_blt I hg hm PyProof.Rows.boot_zip (PyProof.Rows.callWith_type1 (thn (ha.run pos pins s σ H _ I h) fun us s1 ⟨vs, H1, I1, r1, q1⟩ => ?_) hs hpl))
  obtain ⟨a, b, xs, ys, ex, hqx, hqy, q⟩ := q1
  subst ex
  cases r1 with
  | cons r rr =>
    cases rr with
    | cons r' rr =>
      cases rr
      cases r
      cases r'
      have fresh5 : ∀ c, c ∈ [s1.heap.objs.size + 4, s1.heap.objs.size + 2, s1.heap.objs.size + 3, s1.heap.objs.size, s1.heap.objs.size + 1] → FpOk X pins H1 c := fun c hcm => by
        have hle : s1.heap.objs.size ≤ c := by
          simp only [List.mem_cons, List.not_mem_nil, or_false] at hcm
          omega
        exact I1.fpOk hle (I1.hok.fresh hle)
      obtain ⟨its, rv, p1, _⟩ := I1.tuple hqx
      obtain ⟨its2, rv2, p2, _⟩ := I1.list hqy
      obtain ⟨o1, ho1, _⟩ := id p1
      refine call_zipM (show s1.heap.IsTuple a its.toArray from p1) p2.isList fun h' hz hTI hTO h1 h2 hsz hk => wpAny_pyIter_zip hz ?_
      have I2 : Inv X pins σ H1 { s1 with heap := h' } := I1.kept (t' := s1.toks) hk
      exact ⟨s1.heap.objs.size + 4, [s1.heap.objs.size + 4, s1.heap.objs.size + 2, s1.heap.objs.size + 3, s1.heap.objs.size, s1.heap.objs.size + 1], _, _, H1, rfl, I2, turn_zipM (PySem.W.ktu_apart s1.heap.objs.size a b (Heap.lt_size ho1) p2.lt), ⟨hz, hTI, ⟨_, _, hTO⟩, h1, h2⟩, fresh5, q⟩
section
variable {cl : Str → Addr} {W : WX} {X : Cx} {a b : Expr} {f g : Ev D} {p pos tpos : Pos} {elts : List Expr} {kk : Nat}
theorem zipM_ok {K : PySem.W.Frag} {am : AM} {H : Hp} {l m : Addr} {xs ys : List D} (h : ∀ (am' : AM) (H' : Hp) (S' : Sto), Grow am am' H H' → RelS K cl am' S' H' → ∃ vs us, SqT K H' l vs ∧ SqL K H' m us ∧ VRs K am' H' xs vs ∧ VRs K am' H' ys us) : SrcJ K cl (.tmp (zipL xs ys)) am H (ItzM K l m) := by
  intro am' H' S' g rs _
  obtain ⟨vs, us, h1, h2, h3, h4⟩ := h am' H' S' g rs
  refine ⟨fun i d hd => ?_, fun i hi => ⟨vs, us, h1, h2, ?_⟩⟩
  · obtain ⟨x, y, hx, hy, rfl⟩ := zipL_get hd
    obtain ⟨v, hv, rv⟩ := h3.get hx
    obtain ⟨u, hu, ru⟩ := h4.get hy
    refine ⟨⟨vs, us, v, u, h1, h2, hv, hu⟩, fun z H2 hz => ?_⟩
    obtain ⟨T, v', u', rfl, hT, rfl, k1, k2⟩ := hz
    have e : v' = v := Option.some.inj ((k1 vs h1).symm.trans hv)
    have e' : u' = u := Option.some.inj ((k2 us h2).symm.trans hu)
    subst e e'
    exact ⟨am', Grow.upd hT, rs.upd hT, VR.tpiNew rs (.cons rv (.cons ru .nil)) hT⟩
  · rw [← h3.length, ← h4.length]
    simp only [Src.items_tmp, zipL, List.length_zipWith] at hi
    omega
def srcZm (ds : List D) (S : Sto) : Res Src := match ds with
  | [.tup xs, y] => match stL y with
    | some ys => .ok (.tmp (zipL xs ys)) S
    | none => .bad
  | _ => .bad
def iZm (f g : Ev D) : Ev Src := fun e S => (eArgs [f, g] e S).bind srcZm
theorem qi_zipM (hg : Gl X "zip") (hm : X.mg "zip" = none) (ha : QE cl W X a f) (hb : QE cl W X b g) (hs : starEach [a, b] X.env = (false, eval a X.env) :: starEach [b] X.env := by rfl) (h0 : starEach [b] X.env = (false, eval b X.env) :: starEach [] X.env := by rfl) (hpl : (backTo pos (starEach [b] X.env)).any (·.1) = false := by rfl) :
    QI cl W X (.Tuple elts kk tpos) (.Call (.Name "zip" p) [a, b] [] pos) (iZm f g) :=
  (pi_zipM hg hm (qa_cons ha (qa_cons hb qa_nil h0) hs) hs hpl).imp fun σ H R ⟨am, e, S, rs, re, q0⟩ =>
    ⟨am, e, S, rs, re, (Post.step q0).imp fun xs H1 ⟨am1, S1, ds, ee, g1, rs1, rvs, p1⟩ => by
      have hl := eArgs_len ee
      match ds, hl, rvs with
      | [d1, d2], _, .cons (v := v1) r1 (.cons (v := v2) r2 .nil) =>
        cases r1 with
        | @tup l vs xs t1 s1 =>
          cases e2 : stL d2 with
          | none => simp only [srcZm, e2] at p1; exact p1.elim
          | some ys =>
            simp only [srcZm, e2] at p1
            obtain ⟨m, us, rfl, b1, b2⟩ := stL_ok r2 e2
            exact ⟨l, m, vs, us, rfl, t1.seq, b1, p1 am1 _ H1 .refl rs1 (zipM_ok fun am' H' S' g rs => ⟨vs, us, (t1.ext g.ext).seq, (b2 am' H' g).1, s1.mono g, (b2 am' H' g).2⟩)⟩
        | _ => exact p1.elim⟩
end
end Pu
set_option Elab.async false
set_option linter.all false
set_option maxRecDepth 100000
namespace Pu
open PySem PySem.Spec PyProof.Rows L2
theorem op_eqB {X : Cx} : OpR X (compareOp .Eq) (fun x y H Q => ∃ a b : Bool, x = .bl a ∧ y = .bl b ∧ Q (.bl (a == b)) H) := by
  intro pins s σ H x y v u Q I rx ry h
  obtain ⟨a, b, rfl, rfl, q⟩ := h
  cases rx
  cases ry
  exact SeqAt.RcAt.bool_bool a b X.prog X.w _ _ ⟨.bl (a == b), H, I, rfl, q⟩
section
variable {cl : Str → Addr} {X : Cx} {i : Nat} {a : Addr} {oe : Obj} {c x y : Str} {q p1 p2 pos : Pos} {b b1 b2 v : Bool}
theorem he_eq {e1 e2 : Expr} (ha : HE X i a e1 b1) (hb : HE X i a e2 b2) (hv : (b1 == b2) = v := by rfl) (hm : behindInMarks .Eq e2 = false := by first | exact nomark _ | rfl) : HE X i a (.Compare e1 [.Eq] [e2] pos) v := by
  subst hv
  exact (pe_cmpR op_eqB ha hb hm).imp fun σ H Q ⟨hσ, q⟩ => ⟨hσ, fun H1 k1 => ⟨hσ, fun H2 k2 => ⟨b1, b2, rfl, rfl, q H2 fun b o e => k2 b o (k1 b o e)⟩⟩⟩
def tHT (i : Nat) (a : Addr) (v : Bool) : TT := fun σ H Q => σ[i]? = some (some (.ref a)) ∧ ∀ H', (∀ b o, H b = some o → H' b = some o) → Q v H'
abbrev HT (X : Cx) (i : Nat) (a : Addr) (t : Expr) (v : Bool) : Prop := PT X t (tHT i a v)
abbrev HW (X : Cx) (i : Nat) (a : Addr) (t : Expr) (v : Bool) : Prop := PW X t (tHT i a v)
theorem ht_val {t : Expr} (h : HE X i a t v) (he : ∀ whole, isTrue t X.env whole = (do let v ← whole; standAt t.pos; holding [v] (truthy v)) := by intro _; rfl) : HT X i a t v := (pt_val h he).imp fun σ H Q ⟨hσ, q⟩ => ⟨hσ, fun H1 k1 => ⟨v, rfl, q H1 k1⟩⟩
theorem ht_eq {e1 e2 : Expr} (ha : HE X i a e1 b1) (hb : HE X i a e2 b2) (hv : (b1 == b2) = v := by rfl) (hm : behindInMarks .Eq e2 = false := by first | exact nomark _ | rfl) : HT X i a (.Compare e1 [.Eq] [e2] pos) v := by
  subst hv
  exact (pt_cmpR op_eqB ha hb hm).imp fun σ H Q ⟨hσ, q⟩ => ⟨hσ, fun H1 k1 => ⟨hσ, fun H2 k2 => ⟨b1, b2, rfl, rfl, ⟨_, rfl, q H2 fun b o e => k2 b o (k1 b o e)⟩⟩⟩⟩
theorem ht_not {t : Expr} (h : HT X i a t b) (hv : (!b) = v := by rfl) : HT X i a (.UnaryOp .Not t pos) v := by
  subst hv
  exact (pt_not h).imp fun σ H Q ⟨hσ, q⟩ => ⟨hσ, fun H1 k1 => q H1 k1⟩
theorem hw_or1 {t : Expr} (h : HT X i a t v) : HW X i a (.BoolOp .Or [t] pos) v := pw_or1 h
theorem hw_and1 {t : Expr} (h : HT X i a t v) : HW X i a (.BoolOp .And [t] pos) v := pw_and1 h
theorem hw_or {t1 t2 : Expr} {rest : List Expr} (ha : HT X i a t1 b1) (hb : HW X i a (.BoolOp .Or (t2 :: rest) pos) b2) (hv : (b1 || b2) = v := by rfl) : HW X i a (.BoolOp .Or (t1 :: t2 :: rest) pos) v := by
  subst hv
  exact (pw_or ha hb).imp fun σ H Q ⟨hσ, q⟩ => ⟨hσ, fun H1 k1 => by
    cases b1 with
    | true => exact q H1 k1
    | false => exact ⟨hσ, fun H2 k2 => q H2 fun b o e => k2 b o (k1 b o e)⟩⟩
theorem hw_and {t1 t2 : Expr} {rest : List Expr} (ha : HT X i a t1 b1) (hb : HW X i a (.BoolOp .And (t2 :: rest) pos) b2) (hv : (b1 && b2) = v := by rfl) : HW X i a (.BoolOp .And (t1 :: t2 :: rest) pos) v := by
  subst hv
  exact (pw_and ha hb).imp fun σ H Q ⟨hσ, q⟩ => ⟨hσ, fun H1 k1 => by
    cases b1 with
    | false => exact q H1 k1
    | true => exact ⟨hσ, fun H2 k2 => q H2 fun b o e => k2 b o (k1 b o e)⟩⟩
/-- an if whose test of what was caught says no -/
theorem qh_ifF {t : Expr} {body rest : List Stmt} {f : Stm} (h : ∀ (a : Addr) (oe : Obj) (pn : List (Addr × Obj)), L2N.Zn (.ref (cl c)) none oe → (∃ vs, oe.data = .fields vs) → HT (X.suite a ((a, oe) :: pn)) i a t false) (r : QH cl X i c rest f) : QH cl X i c (.If t body [] pos :: rest) f := fun a oe pn hz hf =>
  (pss_cons (ps_if (h a oe pn hz hf) pss_never pss_nil) (r a oe pn hz hf)).imp fun D σ H ⟨am, e, S, rs, re, hσ, p⟩ => ⟨hσ, fun H' k => by
    obtain ⟨g, rs'⟩ := rs.wide k
    exact ⟨am, e, S, rs', re.mono g, hσ, p.grow g⟩⟩
/-- a choice of two texts -/
theorem qh_ix {m0 m1 z : Str} {j0 j1} {ex : Expr} {p3 p4 p5 p6 p7 : Pos} (hgI : Gl X "int") (hmI : X.mg "int" = none) (h : ∀ (a : Addr) (oe : Obj) (pn : List (Addr × Obj)), L2N.Zn (.ref (cl c)) none oe → (∃ vs, oe.data = .fields vs) → HE (X.suite a ((a, oe) :: pn)) i a ex v) (hv : (if v = true then m1 else m0) = z := by rfl)
    (h0 : ∀ (a : Addr) (oe : Obj) (pn : List (Addr × Obj)), starEach [ex] (X.suite a ((a, oe) :: pn)).env = (false, eval ex (X.suite a ((a, oe) :: pn)).env) :: starEach [] (X.suite a ((a, oe) :: pn)).env := by intro _ _ _; rfl) (hpl : ∀ (a : Addr) (oe : Obj) (pn : List (Addr × Obj)), (backTo p4 (starEach [] (X.suite a ((a, oe) :: pn)).env)).any (·.1) = false := by intro _ _ _; rfl)
    (h1 : ∀ (a : Addr) (oe : Obj) (pn : List (Addr × Obj)), starEach [.Constant (.str m0) j0 p5, .Constant (.str m1) j1 p6] (X.suite a ((a, oe) :: pn)).env = (false, eval (.Constant (.str m0) j0 p5) (X.suite a ((a, oe) :: pn)).env) :: starEach [.Constant (.str m1) j1 p6] (X.suite a ((a, oe) :: pn)).env := by intro _ _ _; rfl) (h2 : ∀ (a : Addr) (oe : Obj) (pn : List (Addr × Obj)), starEach [.Constant (.str m1) j1 p6] (X.suite a ((a, oe) :: pn)).env = (false, eval (.Constant (.str m1) j1 p6) (X.suite a ((a, oe) :: pn)).env) :: starEach [] (X.suite a ((a, oe) :: pn)).env := by intro _ _ _; rfl)
    {p8 p9 : Pos} : QH cl X i c [.Return (some (.Subscript (.List [.Constant (.str m0) j0 p5, .Constant (.str m1) j1 p6] p7) (.Call (.Name "int" p3) [ex] [] p4) p8)) p9] (sRet (eC (.str z))) := fun a oe pn hz hf => by
  subst hv
  refine (pss_one (ps_ret (pe_ix (ix_seq (X := X.suite a ((a, oe) :: pn))) (pe_lst (pa_cons (pe_str (X := X.suite a ((a, oe) :: pn))) (pa_cons pe_str pa_nil (h2 a oe pn)) (h1 a oe pn))) (pe_callTy (X := X.suite a ((a, oe) :: pn)) call_int1 hgI hmI (by decide +kernel) (pa_cons (h a oe pn hz hf) pa_nil (h0 a oe pn)) (by decide) (by decide) (h0 a oe pn) (hpl a oe pn)) (fun _ _ => rfl)))).imp fun D σ H ⟨am, e, S, rs, re, hσ, p⟩ => ?_
  refine ⟨by show 2 ≤ sizeLine; decide, fun pl hpl => ⟨hσ, fun H' k => .inr ⟨v, rfl, ?_⟩⟩⟩
  have k0 : ∀ b o, H b = some o → H' b = some o := fun b o e => k b o (by rw [upd_ne (ne_of_none e hpl)]; exact e)
  obtain ⟨g, rs'⟩ := rs.wide k0
  have hq : SqL X.K H' pl [.str m0, .str m1] := .inl (.inl (k pl _ upd_same))
  refine .inl ⟨pl, [.str m0, .str m1], _, .str (if v = true then m1 else m0), rfl, rfl, hq, ?_, p am (.str _) H' g rs' (.str _)⟩
  cases v <;> rfl
end
end Pu
set_option Elab.async false
set_option linter.all false
set_option maxRecDepth 100000
set_option maxHeartbeats 1000000
namespace Pu
open PySem PySem.Spec PyProof.Rows L2
section
variable {X : Cx}
def rMnP (K : PySem.W.Frag) : List V → Hp → VK → Prop := fun vs H Q => ∃ (a : Addr) (us : List V) (x : PyData) (xs : List PyData), vs = [V.ref a] ∧ SqT K H a us ∧ DpAll K H us (x :: xs) ∧ PySem.W.AlikeAll (x :: xs) ∧ PyData.canLayAll0 (x :: xs) = true ∧ PyData.depthAll (x :: xs) ≤ 8 ∧
  ∀ (i : Nat) (u : V), us[i]? = some u → (x :: xs)[i]? = some (PySem.W.minD x xs) → Q u H
theorem cr_mnP (hc : X.calm = true) (hu : X.A.units + 65 < cLine) : CallR X (.builtin "min") (rMnP X.K) := by
  intro pins s σ H vs ws Q I r h
  obtain ⟨a, us, x, xs, rfl, hs, hd, ha, hl, hdp, q⟩ := h
  obtain ⟨its, rv, hT, _⟩ := I.tuple hs
  rw [Vals.ref1 r]
  obtain ⟨as, hr⟩ := Dp.readsAll I (x :: xs) us its hd rv
  refine PySem.W.min_tuple_data (vs := its.toArray) (I.ok.hd hc) hT hr ha (by omega) fun i v h' tk bs hv hr' hk => ?_
  have hv' : its[i]? = some v := by simpa using hv
  obtain ⟨bs', r1, hi, _, _⟩ := PySem.W.readsAll_at hr i v hv'
  have hil := (List.getElem?_eq_some_iff.mp hv').1
  have hul : i < us.length := by rw [rv.length]; exact hil
  obtain ⟨u, hu'⟩ : ∃ u, us[i]? = some u := ⟨_, List.getElem?_eq_getElem hul⟩
  obtain ⟨v', e1', ru⟩ := rv.get hu'
  rw [hv'] at e1'
  cases e1'
  have r2 := PySem.W.reads_keeps hk r1
  have hcl : ((x :: xs).getD i .none).canLay0 = true := by
    have hm : (x :: xs).getD i .none ∈ (x :: xs) := by
      have hi2 : i < (x :: xs).length := hi
      rw [List.getD_eq_getElem?_getD, List.getElem?_eq_getElem hi2]
      exact List.getElem_mem hi2
    have : ∀ (zs : List PyData), PyData.canLayAll0 zs = true → ∀ z ∈ zs, z.canLay0 = true := by
      intro zs
      induction zs with
      | nil => intro _ z hz; cases hz
      | cons y zs ih =>
        intro h z hz
        simp only [PyData.canLayAll0, Bool.and_eq_true] at h
        rcases List.mem_cons.mp hz with rfl | hz
        · exact h.1
        · exact ih h.2 z hz
    exact this _ hl _ hm
  have eq := PySem.SeqAt.Reads.unique _ _ v _ _ hcl r2 hr'
  refine ⟨u, H, I.kept (t' := tk) hk, ru, q i u hu' ?_⟩
  have hi2 : i < (x :: xs).length := hi
  rw [List.getD_eq_getElem?_getD, List.getElem?_eq_getElem hi2] at eq
  rw [List.getElem?_eq_getElem hi2, ← eq]
  rfl
end
def mnS (a y : Int × Int) : Int × Int := if PySem.W.dataLt (rowD y).py (rowD a).py = true then y else a
def mnP (ds : List D) (S : Sto) : Res D := match ds with
  | [d] => match d with
    | .tup xs => match prsL xs with
      | some (p :: ps) => .ok (rowD (ps.foldl mnS p)) S
      | _ => .bad
    | _ => .bad
  | _ => .bad
theorem mnP_some {p : Int × Int} {ps : List (Int × Int)} {S : Sto} : mnP [.tup ((p :: ps).map rowD)] S = .ok (rowD (ps.foldl mnS p)) S := by
  unfold mnP
  simp only [prsL_map]
theorem mn_py : ∀ (ps : List (Int × Int)) (p : Int × Int), PySem.W.minD (rowD p).py (pys (ps.map rowD)) = (rowD (ps.foldl mnS p)).py
  | [], p => rfl
  | y :: ps, p => by
    have ih := mn_py ps (mnS p y)
    show PySem.W.minD (if PySem.W.dataLt (rowD y).py (rowD p).py = true then (rowD y).py else (rowD p).py) (pys (ps.map rowD)) = _
    rw [List.foldl_cons, ← ih]
    unfold mnS
    split <;> rfl
section
variable {cl : Str → Addr} {W : WX} {X : Cx} {a : Expr} {fs : List (Ev D)} {pos p : Pos}
theorem ok_mnP : OkN X.K cl (rMnP X.K) mnP := by
  intro W σ am S H ds vs Q rs h1 pp
  match ds, vs, h1, pp with
  | [d], [v], .cons r1 .nil, pp =>
    cases r1 with
    | @tup l us xs ht hs =>
      unfold mnP at pp
      simp only at pp
      cases e : prsL xs with
      | none => rw [e] at pp; exact pp.elim
      | some ps =>
        rw [e] at pp
        cases ps with
        | nil => exact pp.elim
        | cons z zs =>
          have ex := prsL_eq e
          subst ex
          have hall : ∀ d ∈ pys ((z :: zs).map rowD), ∃ q : Int × Int, d = (rowD q).py := by
            intro d hd
            rw [pys_eq, List.map_map] at hd
            obtain ⟨q, _, rfl⟩ := List.mem_map.mp hd
            exact ⟨q, rfl⟩
          refine ⟨l, us, (rowD z).py, pys (zs.map rowD), rfl, ht.seq, hs.dp (lays rpRow0 (z :: zs)), ⟨fun x hx y hy => ?_, fun x hx e => ?_⟩, lays rpRow0 (z :: zs), Nat.le_trans (deps rpRow0 (z :: zs)) (by decide), fun i u hu hi => ?_⟩
          · obtain ⟨q, rfl⟩ := hall x hx
            obtain ⟨q', rfl⟩ := hall y hy
            exact alike_row q q'
          · obtain ⟨q, rfl⟩ := hall x hx
            cases e
          · rw [mn_py] at hi
            have hi2 : (pys ((z :: zs).map rowD))[i]? = some (rowD (zs.foldl mnS z)).py := hi
            rw [pys_eq, List.map_map, List.getElem?_map, Option.map_eq_some_iff] at hi2
            obtain ⟨q, hq, e2'⟩ := hi2
            have eq : q = zs.foldl mnS z := by
              obtain ⟨q1, q2⟩ := q
              generalize zs.foldl mnS z = w at e2'
              obtain ⟨w1, w2⟩ := w
              have e3' : PyData.tuple [.int q1, .int q2] = .tuple [.int w1, .int w2] := e2'
              simp at e3'
              rw [e3'.1, e3'.2]
            subst eq
            have hd : ((z :: zs).map rowD)[i]? = some (rowD (zs.foldl mnS z)) := by rw [List.getElem?_map, hq]; rfl
            obtain ⟨u', hu2, rv⟩ := hs.get hd
            rw [hu] at hu2
            cases hu2
            exact pp am _ H .refl rs rv
    | _ => exact pp.elim
  | [], _, _, pp => exact pp.elim
  | _ :: _ :: _, _, _, pp =>
    first
    | exact pp.elim
    | (unfold mnP at pp; exact pp.elim)
theorem qe_mnP {k : Nat} (hr : Room k X.A) (hc : X.calm = true) (hg : Gl X "min") (hm : X.mg "min" = none) (ha : QA cl W X [a] (eArgs fs)) (he : starEach [a] X.env = (false, eval a X.env) :: starEach [] X.env := by rfl) (hpl : (backTo pos (starEach [] X.env)).any (·.1) = false := by rfl) :
    QE cl W X (.Call (.Name "min" p) [a] [] pos) (eCall mnP fs) := qe_callB (cr_mnP hc (units65 hr)) ok_mnP hg hm (by decide +kernel) ha (by decide) (by decide) he hpl
end
end Pu
set_option Elab.async false
set_option linter.all false
set_option maxRecDepth 100000
set_option maxHeartbeats 1000000
namespace Pu
open PySem PySem.Spec PyProof.Rows L2
def signs (x : Str) : List D := x.cps.toList.map fun c => .str ⟨#[c]⟩
def srcTx (d : D) (S : Sto) : Res Src := match d with
  | .str x => .ok (.tmp (signs x)) S
  | _ => .bad
def iTx (f : Ev D) : Ev Src := fun e S => (f e S).bind srcTx
def srcRv (ds : List D) (S : Sto) : Res Src := match ds with
  | [.lst xs] => .ok (.tmp xs.reverse) S
  | [.fls xs] => .ok (.tmp xs.reverse) S
  | _ => .bad
def iRv (f : Ev D) : Ev Src := fun e S => (eArgs [f] e S).bind srcRv
section
variable {cl : Str → Addr} {W : WX} {X : Cx} {a tgE : Expr} {f : Ev D} {p pos : Pos} {K : PySem.W.Frag}
theorem its_ok {x : Str} {am : AM} {H : Hp} : SrcJ K cl (.tmp (signs x)) am H (Its x) := by
  intro am' H' S' g rs _
  refine ⟨fun i d hd => ?_, fun i hi => by simpa [Its, signs] using hi⟩
  have hd : (signs x)[i]? = some d := hd
  unfold signs at hd
  rw [List.getElem?_map, Option.map_eq_some_iff] at hd
  obtain ⟨c, hc, rfl⟩ := hd
  have hi : i < x.cps.size := by
    have := (List.getElem?_eq_some_iff.mp hc).1
    simpa using this
  refine ⟨hi, fun v H2 hy => ?_⟩
  obtain ⟨rfl, c', hc', rfl⟩ := hy
  have e : c' = c := by
    have h1 : x.cps.toList[i]? = x.cps[i]? := Array.getElem?_toList
    rw [h1, hc'] at hc
    exact Option.some.inj hc
  subst e
  exact ⟨am', .refl, rs, .str _⟩
theorem qi_tx (ha : QE cl W X a f) : QI cl W X tgE a (iTx f) := (pi_str ha).imp fun σ H R ⟨am, e, S, rs, re, p⟩ =>
  ⟨am, e, S, rs, re, (Post.step p).imp fun x H1 ⟨am1, S1, d, _, g1, rs1, rv, p1⟩ => by
    cases rv with
    | str x => exact ⟨x, rfl, p1 am1 _ H1 .refl rs1 its_ok⟩
    | _ => exact p1.elim⟩
theorem rv_ok {am : AM} {H : Hp} {l : Addr} {xs : List D} {n : Nat} (hn : n = xs.length) (h : ∀ (am' : AM) (H' : Hp) (S' : Sto), Grow am am' H H' → RelS K cl am' S' H' → ∃ vs, SqL K H' l vs ∧ VRs K am' H' xs vs) : SrcJ K cl (.tmp xs.reverse) am H (Itv K l n) := by
  intro am' H' S' g rs _
  subst hn
  obtain ⟨vs, h1, h2⟩ := h am' H' S' g rs
  refine ⟨fun i d hd => ?_, fun i hi => by simpa [Itv] using hi⟩
  have hd : xs.reverse[i]? = some d := hd
  have hi : i < xs.length := by
    have := (List.getElem?_eq_some_iff.mp hd).1
    simpa using this
  rw [List.getElem?_reverse hi] at hd
  obtain ⟨v, hv, rv⟩ := h2.get hd
  refine ⟨⟨hi, vs, v, h1, hv⟩, fun y H2 hy => ?_⟩
  obtain ⟨rfl, hz⟩ := hy
  have e : y = v := Option.some.inj ((hz vs h1).symm.trans hv)
  subst e
  exact ⟨am', .refl, rs, rv⟩
theorem qi_rv (hg : Gl X "reversed") (hm : X.mg "reversed" = none) (ha : QE cl W X a f) (hs : starEach [a] X.env = [(false, eval a X.env)] := by rfl) (h0 : starEach [a] X.env = (false, eval a X.env) :: starEach [] X.env := by rfl) :
    QI cl W X tgE (.Call (.Name "reversed" p) [a] [] pos) (iRv f) :=
  (pi_reversed hg hm (qa_cons ha qa_nil h0) hs).imp fun σ H R ⟨am, e, S, rs, re, q0⟩ =>
    ⟨am, e, S, rs, re, (Post.step q0).imp fun xs H1 ⟨am1, S1, ds, _, g1, rs1, rvs, p1⟩ => by
      cases rvs with
      | nil => exact p1.elim
      | cons r1 r2 =>
        cases r2 with
        | cons _ _ => cases r1 <;> exact p1.elim
        | nil =>
          cases r1 with
          | @lst l vs ys h1 h2 h3 => exact ⟨l, vs, rfl, .inl (.inl h1), p1 am1 _ H1 .refl rs1 (rv_ok h3.length.symm fun am' H' S' g rs => ⟨vs, .inl (.inl (g.ext.keep _ _ h1 h2).1), h3.mono g⟩)⟩
          | @fls l vs ys h1 h3 => exact ⟨l, vs, rfl, h1.seq, p1 am1 _ H1 .refl rs1 (rv_ok h3.length.symm fun am' H' S' g rs => ⟨vs, (h1.ext g.ext).seq, h3.mono g⟩)⟩
          | _ => exact p1.elim⟩
end
def strsD : List D → Option (List Str)
  | [] => some []
  | .str x :: r => (strsD r).map (x :: ·)
  | _ :: _ => none
def JoinFit (a : Str) (ys : List Str) : Prop := (ys.map (·.length)).sum + ys.length * a.length ≤ 16777216
instance (a : Str) (ys : List Str) : Decidable (JoinFit a ys) := by unfold JoinFit; infer_instance
def joinD (o : D) (ds : List D) (S : Sto) : Res D := match o with
  | .str a => match ds with
    | [d] => match (match d with | .tup xs => some xs | d => lsOf S d).bind strsD with
      | some ys => if JoinFit a ys then .ok (.str (Txt.join a ys)) S else .bad
      | none => .bad
    | _ => .bad
  | _ => .bad
theorem strsD_map : ∀ ys : List Str, strsD (ys.map D.str) = some ys
  | [] => rfl
  | y :: ys => by
    show (strsD (ys.map D.str)).map (y :: ·) = _
    rw [strsD_map ys]
    rfl
section
variable {cl : Str → Addr} {W : WX} {X : Cx} {o a : Expr} {f g : Ev D} {apos cpos : Pos} {K : PySem.W.Frag}
theorem strsD_ok {am : AM} {H : Hp} : ∀ {ds : List D} {vs : List V} {ys : List Str}, VRs K am H ds vs → strsD ds = some ys → vs = ys.map V.str
  | _, _, ys, .nil, e => by cases e; rfl
  | _, _, ys, .cons (d := d) (ds := ds) h t, e => by
    cases h with
    | str x =>
      simp only [strsD] at e
      cases q : strsD ds with
      | none => rw [q] at e; cases e
      | some zs =>
        rw [q] at e
        cases e
        rw [strsD_ok t q]
        rfl
    | _ => cases e
def rJoin (X : Cx) : V → List V → Hp → VK → Prop := fun x xs H Q => ∃ a p, ∃ ys : List Str, x = .str a ∧ xs = [.ref p] ∧ (SqL X.K H p (ys.map V.str) ∨ SqT X.K H p (ys.map V.str)) ∧
    (ys.map (·.length)).sum + ys.length * a.length ≤ 16777216 ∧ Q (.str (Txt.join a ys)) H
theorem ok_join : OkM X.K cl "str" (rJoin X) joinD := by
  intro W σ am S H o ds x vs Q rs h1 h2 p
  cases h1 with
  | str s =>
    cases h2 with
    | nil => exact p.elim
    | cons r1 r2 =>
      cases r2 with
      | cons _ _ => exact p.elim
      | nil =>
        rename_i d v
        have fin : ∀ (xs : List D) (us : List V) (l : Addr), v = .ref l → VRs X.K am H xs us → (SqL X.K H l us ∨ SqT X.K H l us) → Post X.K cl W σ (VR X.K) am H (match strsD xs with
            | some ys => if JoinFit s ys then .ok (.str (Txt.join s ys)) S else .bad
            | none => .bad) Q → rJoin X (.str s) [v] H Q := fun xs us l ev hv hs p => by
          subst ev
          cases e : strsD xs with
          | none => rw [e] at p; exact p.elim
          | some ys =>
            rw [e] at p
            simp only at p
            by_cases hf : JoinFit s ys
            · rw [if_pos hf] at p
              have eu := strsD_ok hv e
              subst eu
              exact ⟨s, l, ys, rfl, rfl, hs, hf, p am _ H .refl rs (.str _)⟩
            · rw [if_neg hf] at p
              exact p.elim
        have viaL : ∀ {xs : List D}, lsOf S d = some xs → Post X.K cl W σ (VR X.K) am H (match (some xs).bind strsD with
            | some ys => if JoinFit s ys then .ok (.str (Txt.join s ys)) S else .bad
            | none => .bad) Q → rJoin X (.str s) [v] H Q := fun {xs} q p => by
          obtain ⟨l, us, ev, q1, q2⟩ := lsOf_ok rs r1 q
          exact fin xs us l ev q2 (.inl q1) p
        unfold joinD at p
        simp only at p
        cases d with
        | tup xs =>
          cases r1 with
          | @tup l us _ t1 s1 => exact fin xs us l rfl s1 (.inr t1.seq) p
        | _ =>
          simp only at p
          first
          | (revert p
             generalize q : lsOf S _ = z
             intro p
             cases z with
             | none => exact p.elim
             | some xs => exact viaL q p)
  | _ => exact p.elim
theorem qe_join (ho : QE cl W X o g) (ha : QE cl W X a f) (h0 : starEach [a] X.env = (false, eval a X.env) :: starEach [] X.env := by rfl)
    (hbase : attributeBase o "join" X.env (eval o X.env) = eval o X.env := by rfl)
    (hfew : ((backTo cpos (starEach [a] X.env)).all (fun x => !x.1) && (backToKw cpos (keywordEach [] X.env)).all (fun x => x.1.isSome) && decide (([a] : List Expr).length + ([] : List Keyword).length + (if ([] : List Keyword).isEmpty then 0 else 1) < 30)) = true := by rfl)
    (hline : (apos.endLine == cpos.line) = true := by rfl) (hplain : (backTo cpos (starEach [] X.env)).any (·.1) = false := by rfl) :
    QE cl W X (.Call (.Attribute o "join" apos) [a] [] cpos) (eM "str" joinD g [f]) := qe_bm PySem.F.plainAttrs_str PySem.F.slot_str_join PySem.F.type_str_join mt_join ok_join ho (qa_cons ha qa_nil h0) hbase hfew hline h0 hplain
end
section
variable {dead vs : List Nat} {tg : Tg} {f g : Ev D} {a : Stm} {e : En} {S : Sto} {xs ys : List D} {t : Ev Bool} {x : Str}
@[simp] theorem ap_iTx : iTx f e S = (f e S).bind srcTx := id rfl
@[simp] theorem ap_iRv : iRv f e S = (eArgs [f] e S).bind srcRv := id rfl
@[simp] theorem srcTx_str : srcTx (.str x) S = .ok (.tmp (signs x)) S := id rfl
@[simp] theorem srcRv_lst : srcRv [.lst xs] S = .ok (.tmp xs.reverse) S := id rfl
@[simp] theorem srcRv_fls : srcRv [.fls xs] S = .ok (.tmp xs.reverse) S := id rfl
theorem forTx (hf : f e S = .ok (.str x) S) : sFor dead tg (iTx f) a e S = forD dead tg (.tmp (signs x)) a (signs x) e S := by
  rw [ap_For, ap_iTx, hf, Res.bind_ok]
  rfl
theorem nLcTx (hf : f e S = .ok (.str x) S) (hl : x.length < 1048576) (q : lcD tg (.tmp (signs x)) t g (wipeE e vs) (signs x) S = .ok ys S) : nLc vs tg (iTx f) t g e S = .ok (.lst ys) S := by
  rw [ap_Lc, ap_iTx, hf, Res.bind_ok, srcTx_str, Res.bind_ok]
  simp only [Src.items_tmp]
  have hz : (signs x).length < 1048576 := by
    unfold signs
    rw [List.length_map]
    exact hl
  rw [if_pos (Nat.le_of_lt (sz hz)), q, Res.bind_ok]
theorem joinD_lst {s : Str} {zs : List Str} (h : JoinFit s zs) : joinD (.str s) [.lst (zs.map D.str)] S = .ok (.str (Txt.join s zs)) S := by
  unfold joinD
  simp only [lsOf_lst, Option.bind_some, strsD_map, h, if_true]
end
end Pu
set_option Elab.async false
set_option linter.all false
set_option maxRecDepth 100000
set_option maxHeartbeats 1000000
namespace L2
open PySem PySem.Spec PyProof.Rows
section
variable {X : Cx} {CX : CXT} {k : Nat} {f C : Addr} {fd : FuncData} {ps : List Str} {sp : Sp} {E : St → XK} {x m : Str} {p pos apos : Pos} {e o : Expr} {es : List Expr} {ta : TE} {t : TA}
def tMethSg (C : Addr) (m : Str) (sp : Sp) (E : St → XK) (ta : TE) (t : TA) : TE := fun σ H Q => ta σ H fun x H1 => ∃ a dx fs, x = .ref a ∧ H1 a = some (.ins C dx fs) ∧ fs.lookup m = none ∧
  t σ H1 fun vs H2 => sp (x :: vs) H2 Q (E σ)
def tMakeSg (C : Addr) (sp : Sp) (E : St → XK) (t : TA) : TE := fun σ H Q => t σ H fun vs H1 => ∀ x dx, H1 x = none → H1 dx = none → dx ≠ x →
  sp (.ref x :: vs) (upd (upd H1 dx (.own x)) x (.ins C dx [])) (fun v H2 => v = .non ∧ Q (.ref x) H2) (E σ)
theorem pe_methSg {pl : Sem Bool} (he : PE X o ta) (c : Cls X.K C) (hm : Meth X.K C m f) (F : FnOk X.prog X.w X.K X.mg X.base CX k f fd ps sp) (hr : Room k X.A) (hb : Binds X.K fd ps []) (hx : ∀ σ, PassesAt CX X σ (E σ)) (ha : PA X (e :: es) t)
    (hst : starEach (e :: es) X.env = (false, eval e X.env) :: starEach es X.env := by rfl) (hpl : (backTo pos (starEach es X.env)).any (·.1) = false := by rfl)
    (ht : eval (.Call (.Attribute o m apos) (e :: es) [] pos) X.env = (do
      let ov ← eval o X.env
      standAt apos.atName
      let (f, first) ← holding [ov] (getMethod ov m pl)
      callWith pos f first (backTo pos (starEach (e :: es) X.env)) (backToKw pos (keywordEach [] X.env))) := by rfl) :
    PE X (.Call (.Attribute o m apos) (e :: es) [] pos) (tMethSg C m sp E ta t) := by
  refine ⟨fun pins s σ H Q I h => ?_⟩
  refine PySem.W.methodCall_KW (pl := pl) (thn (he.run pins s σ H _ I h) fun u s1 ⟨x, H1, I1, rx, a, dx, fs, ex, ea, l, q⟩ => ?_) ht
  subst ex
  obtain rfl : u = Value.ref a := rx
  refine getmeth_ok I1 ea c hm l ?_
  refine PySem.W.callWith_K (first := [.ref a]) (h₀ := X.base) I.ok.mod.kin hm.kp (thn (ha.run pos pins s1 σ H1 _ I1 q) fun us s2 ⟨vs, H2, I2, r, q2⟩ => ⟨I2.kIn, ?_⟩) hst hpl
  exact run_fnS (us := .ref a :: us) (vs := .ref a :: vs) F hr hb (hx σ) I2 (.cons rfl r) q2
theorem pe_meth0Sg {pl : Sem Bool} (he : PE X o ta) (c : Cls X.K C) (hm : Meth X.K C m f) (F : FnOk X.prog X.w X.K X.mg X.base CX k f fd ps sp) (hr : Room k X.A) (hb : Binds X.K fd ps []) (hx : ∀ σ, PassesAt CX X σ (E σ))
    (ht : eval (.Call (.Attribute o m apos) [] [] pos) X.env = (do
      let ov ← eval o X.env
      standAt apos.atName
      let (f, first) ← holding [ov] (getMethod ov m pl)
      callWith pos f first (backTo pos (starEach [] X.env)) (backToKw pos (keywordEach [] X.env))) := by rfl) :
    PE X (.Call (.Attribute o m apos) [] [] pos) (tMethSg C m sp E ta tNil) := by
  refine ⟨fun pins s σ H Q I h => ?_⟩
  refine PySem.W.methodCall_KW (pl := pl) (thn (he.run pins s σ H _ I h) fun u s1 ⟨x, H1, I1, rx, a, dx, fs, ex, ea, l, q⟩ => ?_) ht
  subst ex
  obtain rfl : u = Value.ref a := rx
  refine getmeth_ok I1 ea c hm l ?_
  exact PySem.W.callWith_K0 (first := [.ref a]) I1.kIn hm.kp (run_fnS (us := [.ref a]) (vs := [.ref a]) F hr hb (hx σ) I1 (.cons rfl .nil) q)
theorem run_makeS {pins : List (Addr × Obj)} {σ : St} {H : Hp} {s : Shared} {Q : VK} {us : List Value} {vs : List V} (M : Mk X.K C f) (F : FnOk X.prog X.w X.K X.mg X.base CX k f fd ps sp) (hr : Room (k + 1) X.A) (hb : Binds X.K fd ps [])
    (hx : PassesAt CX X σ (E σ)) (I : Inv X pins σ H s) (r : Vals vs us)
    (h : ∀ x dx, H x = none → H dx = none → dx ≠ x → sp (.ref x :: vs) (upd (upd H dx (.own x)) x (.ins C dx [])) (fun v H2 => v = .non ∧ Q (.ref x) H2) (E σ)) :
    wpAny (model X.prog X.w) X.A (call (.ref C) us) (EP X pins σ Q) X.xe s := by
  have hq := h (s.heap.objs.size + 1) s.heap.objs.size (I.hok.fresh (Nat.le_succ _)) (I.hok.fresh (Nat.le_refl _)) (Nat.ne_of_lt (Nat.lt_succ_self _))
  have I2 := Inv.made (C := C) I
  have r2 : Vals (V.ref (s.heap.objs.size + 1) :: vs) (Value.ref (s.heap.objs.size + 1) :: us) := .cons rfl r
  have hl : (Value.ref (s.heap.objs.size + 1) :: us).length = ps.length := by
    have e := r2.length
    rw [F.len _ _ _ _ hq] at e
    exact e.symm
  have b := hb _ (Value.ref (s.heap.objs.size + 1) :: us) I2.kIn (by rw [List.append_nil]; exact hl)
  rw [List.append_nil] at b
  refine wpAny_call (make_map (f := f) I.kIn M.makes M.init (beq_iff_eq.mp M.fn) (codeAny_mono (F.run _ X.stack _ _ ⟨Value.ref (s.heap.objs.size + 1) :: us, []⟩ (Value.ref (s.heap.objs.size + 1) :: us) _ _ (E σ) (hr.make C us [])
    (I2.env0.make C us []) b r2 hq) fun r s' hq' => ?_))
  cases r with
  | error e => exact hx pins _ _ e s' I2 hq'
  | ok fl =>
    cases fl with
    | ret u =>
      obtain ⟨v, H', I3, rv, ev, q3⟩ := I2.after hq'
      subst ev
      exact ⟨rv, ⟨V.ref (s.heap.objs.size + 1), H', I3, rfl, q3⟩⟩
    | next => exact False.elim hq'
    | brk => exact False.elim hq'
    | cont => exact False.elim hq'
theorem pe_makeSg (M : Mk X.K C f) (F : FnOk X.prog X.w X.K X.mg X.base CX k f fd ps sp) (hr : Room (k + 1) X.A) (hg : Gl X x) (hm : X.mg x = some (.ref C)) (hb : Binds X.K fd ps []) (hx : ∀ σ, PassesAt CX X σ (E σ))
    (ha : PA X (e :: es) t) (hdb : (x == ("__debug__" : Str)) = false := by decide) (he : starEach (e :: es) X.env = (false, eval e X.env) :: starEach es X.env := by rfl) (hpl : (backTo pos (starEach es X.env)).any (·.1) = false := by rfl) :
    PE X (.Call (.Name x p) (e :: es) [] pos) (tMakeSg C sp E t) := by
  refine ⟨fun pins s σ H Q I h => ?_⟩
  refine wpAny_Call_Name_kw (ld_glob I hg hm ?_ hdb)
  refine PySem.W.callWith_K (h₀ := X.base) I.ok.mod.kin M.kp (thn (ha.run pos pins s σ H _ I h) fun us s1 ⟨vs, H1, I1, r, q⟩ => ⟨I1.kIn, ?_⟩) he hpl
  exact run_makeS M F hr hb (hx σ) I1 r q
theorem pe_make0Sg (M : Mk X.K C f) (F : FnOk X.prog X.w X.K X.mg X.base CX k f fd ps sp) (hr : Room (k + 1) X.A) (hg : Gl X x) (hm : X.mg x = some (.ref C)) (hb : Binds X.K fd ps []) (hx : ∀ σ, PassesAt CX X σ (E σ))
    (hdb : (x == ("__debug__" : Str)) = false := by decide) : PE X (.Call (.Name x p) [] [] pos) (tMakeSg C sp E tNil) := by
  refine ⟨fun pins s σ H Q I h => ?_⟩
  refine wpAny_Call_Name_kw (ld_glob I hg hm ?_ hdb)
  exact PySem.W.callWith_K0 I.kIn M.kp (run_makeS (us := []) M F hr hb (hx σ) I .nil h)
end
end L2
namespace Pu
open PySem PySem.Spec PyProof.Rows L2
def insOf (S : Sto) (c : Str) : D → Option (List (Str × D))
  | .ref k => match S[k]? with
    | some (.ins c' fs) => if c' = c then some fs else none
    | _ => none
  | _ => none
@[simp] theorem insOf_ref {S : Sto} {k : Nat} {c : Str} {fs : List (Str × D)} (h : S[k]? = some (.ins c fs)) : insOf S c (.ref k) = some fs := by
  simp only [insOf, h, if_true]
def fldD (c f : Str) (d : D) (S : Sto) : Res D := match insOf S c d with
  | some fs => opt (fs.lookup f) S
  | none => .bad
/-- one attribute set -/
def putFD (f : Str) (v : D) : List (Str × D) → List (Str × D)
  | [] => [(f, v)]
  | (g, x) :: r => if g = f then (g, v) :: r else (g, x) :: putFD f v r
def stF (c f : Str) (o v : D) (S : Sto) : Option Sto := match o with
  | .ref k => match S[k]? with
    | some (.ins c' fs) => if c' = c ∧ fs.length < 1000 then some (S.set k (.ins c (putFD f v fs))) else none
    | _ => none
  | _ => none
section
variable {K : PySem.W.Frag} {cl : Str → Addr} {am : AM} {H : Hp} {S : Sto} {d : D} {v : V}
theorem VRf.lookup {f : Str} : ∀ {fs : List (Str × D)} {vs : List (Str × V)} {d : D}, VRf K am H fs vs → fs.lookup f = some d → ∃ v, vs.lookup f = some v ∧ VR K am H d v
  | _, _, _, .nil, h => by cases h
  | (g, x) :: fs, (g', y) :: vs, d, .cons ⟨e, r⟩ t, h => by
    have e : g = g' := e
    subst e
    rw [List.lookup_cons] at h ⊢
    by_cases hg : (f == g) = true
    · rw [hg] at h ⊢
      cases h
      exact ⟨y, rfl, r⟩
    · rw [Bool.not_eq_true] at hg
      rw [hg] at h ⊢
      exact VRf.lookup t h
theorem VRf.none_of {f : Str} : ∀ {fs : List (Str × D)} {vs : List (Str × V)}, VRf K am H fs vs → fs.lookup f = none → vs.lookup f = none
  | _, _, .nil, _ => rfl
  | (g, x) :: fs, (g', y) :: vs, .cons ⟨e, r⟩ t, h => by
    have e : g = g' := e
    subst e
    rw [List.lookup_cons] at h ⊢
    by_cases hg : (f == g) = true
    · rw [hg] at h; cases h
    · rw [Bool.not_eq_true] at hg
      rw [hg] at h ⊢
      exact VRf.none_of t h
theorem VRf.length : ∀ {fs : List (Str × D)} {vs : List (Str × V)}, VRf K am H fs vs → fs.length = vs.length
  | _, _, .nil => rfl
  | _, _, .cons _ t => by rw [List.length_cons, List.length_cons, VRf.length t]
theorem VRf.put {f : Str} (r : VR K am H d v) : ∀ {fs : List (Str × D)} {vs : List (Str × V)}, VRf K am H fs vs → VRf K am H (putFD f d fs) (putF f v vs)
  | _, _, .nil => .cons ⟨rfl, r⟩ .nil
  | (g, x) :: fs, (g', y) :: vs, .cons ⟨e, r'⟩ t => by
    have e : g = g' := e
    subst e
    show VRf K am H (if g = f then (g, d) :: fs else (g, x) :: putFD f d fs) (if g = f then (g, v) :: vs else (g, y) :: putF f v vs)
    by_cases hg : g = f
    · rw [if_pos hg, if_pos hg]
      exact .cons ⟨rfl, r⟩ t
    · rw [if_neg hg, if_neg hg]
      exact .cons ⟨rfl, r'⟩ (VRf.put r t)
theorem VRf.mono {am' : AM} {H' : Hp} (g : Grow am am' H H') {fs : List (Str × D)} {vs : List (Str × V)} (h : VRf K am H fs vs) : VRf K am' H' fs vs := Paired.mapP h fun p q z => ⟨z.1, z.2.mono g⟩
theorem insOf_ok (r : RelS K cl am S H) (h : VR K am H d v) {c : Str} {fs : List (Str × D)} (e : insOf S c d = some fs) : ∃ k a dx vs, d = .ref k ∧ v = .ref a ∧ am.ad[k]? = some a ∧ S[k]? = some (.ins c fs) ∧ H a = some (.ins (cl c) dx vs) ∧ VRf K am H fs vs := by
  cases h with
  | ref h1 =>
    rename_i n a
    simp only [insOf] at e
    cases q : S[n]? with
    | none => rw [q] at e; cases e
    | some o =>
      rw [q] at e
      cases o with
      | ins c' gs =>
        simp only at e
        split at e
        · rename_i hc
          subst hc
          cases e
          obtain ⟨dx, vs, h2, h3⟩ := r.ob n _ a q h1
          exact ⟨n, a, dx, vs, rfl, rfl, h1, q, h2, h3⟩
        · cases e
      | lst ys => cases e
      | dct ys => cases e
  | _ => cases e
end
section
variable {cl : Str → Addr} {W : WX} {X : Cx} {o a : Expr} {es : List Expr} {f g h : Ev D} {fs : List (Ev D)} {pos pos' apos p : Pos} {c x m : Str}
theorem qe_fld {n : Str} (hc : Cls X.K (cl c)) (hn : NoAttr X.K (cl c) n) (ho : QE cl W X o g) (hb : attributeBase o n X.env (eval o X.env) = eval o X.env := by rfl) : QE cl W X (.Attribute o n pos) (e1 (fldD c n) g) :=
  (pe_fld ho hb).imp fun σ H Q ⟨am, e, S, rs, re, p⟩ => ⟨am, e, S, rs, re, (Post.step p).imp fun x H1 ⟨am1, S1, d, _, g1, rs1, rv, p1⟩ => by
    unfold fldD at p1
    cases q : insOf S1 c d with
    | none => rw [q] at p1; exact p1.elim
    | some fs =>
      rw [q] at p1
      simp only at p1
      obtain ⟨k, a, dx, vs, _, ev, _, _, h2, h3⟩ := insOf_ok rs1 rv q
      cases q2 : fs.lookup n with
      | none => rw [q2] at p1; exact p1.elim
      | some d2 =>
        rw [q2] at p1
        obtain ⟨w, hw, rw'⟩ := h3.lookup q2
        exact ⟨a, cl c, dx, vs, w, ev, h2, hc, hn, hw, p1 am1 w H1 .refl rs1 rw'⟩⟩
/-- o.n = v -/
def sFl (c n : Str) (vE oE : Ev D) : Stm := fun e S => (vE e S).stm e fun v S => (oE e S).stm e fun o S => match stF c n o v S with
  | some S' => .next e S'
  | none => .bad
theorem stF_ok {am : AM} {H : Hp} {S S' : Sto} {n : Str} {o v : D} {ov vv : V} {K : PySem.W.Frag} (rs : RelS K cl am S H) (ro : VR K am H o ov) (rv : VR K am H v vv) (e : stF c n o v S = some S') :
    ∃ a dx vs, ov = .ref a ∧ a ∈ am.ad ∧ H a = some (.ins (cl c) dx vs) ∧ vs.length < 1000 ∧ RelS K cl am S' (upd H a (.ins (cl c) dx (putF n vv vs))) := by
  cases ro with
  | ref h1 =>
    rename_i k a
    simp only [stF] at e
    cases q : S[k]? with
    | none => rw [q] at e; cases e
    | some ob =>
      rw [q] at e
      cases ob with
      | ins c' gs =>
        simp only at e
        split at e
        · rename_i hc
          obtain ⟨hc, hl⟩ := hc
          subst hc
          cases e
          obtain ⟨dx, vs, h2, h3⟩ := rs.ob k _ a q h1
          have hm : a ∈ am.ad := List.mem_of_getElem? h1
          refine ⟨a, dx, vs, rfl, hm, h2, by rw [← h3.length]; exact hl, rs.put h1 ⟨dx, _, upd_same, ?_⟩⟩
          exact VRf.put (rv.mono (Grow.put hm)) (h3.mono (Grow.put hm))
        · cases e
      | lst ys => cases e
      | dct ys => cases e
  | _ => cases e
theorem qs_fld {n : Str} (hc : Cls X.K (cl c)) (hn : NoAttr X.K (cl c) n) (ho : QE cl W X o g) (ha : QE cl W X a f) (hs : swapsWith a (some (.Attribute o n pos')) pos.line X.env = pure false := by rfl) :
    QS cl W X (.Assign [.Attribute o n pos'] a pos) (sFl c n f g) :=
  (ps_fld ho ha hs).imp fun E σ H ⟨am, e, S, rs, re, p⟩ => ⟨am, e, S, rs, re, (PostS.step re p).imp fun y H1 ⟨am1, S1, d, _, g1, rs1, rv, p1⟩ =>
    ⟨am1, e, S1, rs1, re.mono g1, (PostS.step (re.mono g1) p1).imp fun x H2 ⟨am2, S2, ob, _, g2, rs2, ro, p2⟩ => by
      cases q : stF c n ob d S2 with
      | none => rw [q] at p2; exact p2.elim
      | some S3 =>
        rw [q] at p2
        obtain ⟨a', dx, vs, ev, hm, h2, hl, rs3⟩ := stF_ok rs2 ro (rv.mono g2) q
        exact ⟨a', cl c, dx, vs, ev, h2, hc, hn, hl, p2 am2 σ _ (Grow.put hm) rs3 (((re.mono g1).mono g2).mono (Grow.put hm))⟩⟩⟩
/-- o.n += v, ints -/
def sFlAdd (c n : Str) (oE vE : Ev D) : Stm := fun e S => (oE e S).stm e fun o S => (fldD c n o S).stm e fun w S => (vE e S).stm e fun v S => ((intD (fun _ _ => True) fun i j => .int (i + j)) w v S).stm e fun z S => match stF c n o z S with
  | some S' => .next e S'
  | none => .bad
theorem qs_fldAdd {n : Str} (hc : Cls X.K (cl c)) (hn : NoAttr X.K (cl c) n) (ho : QE cl W X o g) (ha : QE cl W X a f) : QS cl W X (.AugAssign (.Attribute o n pos') .Add a pos) (sFlAdd c n g f) :=
  (ps_fldaug ho ha in_add).imp fun E σ H ⟨am, e, S, rs, re, p⟩ => ⟨am, e, S, rs, re, (PostS.step re p).imp fun x H1 ⟨am1, S1, ob, _, g1, rs1, ro, p1⟩ => by
    unfold fldD at p1
    cases q : insOf S1 c ob with
    | none => rw [q] at p1; exact p1.elim
    | some fs =>
      rw [q] at p1
      simp only at p1
      obtain ⟨k, a', dx, vs, _, ev, _, _, h2, h3⟩ := insOf_ok rs1 ro q
      cases q2 : fs.lookup n with
      | none => rw [q2] at p1; exact p1.elim
      | some d2 =>
        rw [q2] at p1
        obtain ⟨w, hw, rw'⟩ := h3.lookup q2
        refine ⟨a', cl c, dx, vs, w, ev, h2, hc, hn, hw, am1, e, S1, rs1, re.mono g1, ?_⟩
        have p1' : PostS X.K cl W am1 H1 ((f e S1).stm e fun v S => ((intD (fun _ _ => True) fun i j => .int (i + j)) d2 v S).stm e fun z S => match stF c n ob z S with
          | some S' => .next e S'
          | none => .bad) E := p1
        refine (PostS.step (re.mono g1) p1').imp fun y H2 ⟨am2, S2, d, _, g2, rs2, rv, p2⟩ => ?_
        cases d2 with
        | int i =>
          cases d with
          | int j =>
            have p2' : PostS X.K cl W am2 H2 (match stF c n ob (.int (i + j)) S2 with
              | some S' => .next e S'
              | none => .bad) E := p2
            cases q3 : stF c n ob (.int (i + j)) S2 with
            | none => rw [q3] at p2'; exact p2'.elim
            | some S3 =>
              rw [q3] at p2'
              obtain ⟨a2, dx2, vs2, ev2, hm, h5, hl, rs3⟩ := stF_ok rs2 (ro.mono g2) (.int (i + j)) q3
              cases rw'
              cases rv
              rw [ev] at ev2
              cases ev2
              exact ⟨i, j, rfl, rfl, dx2, vs2, h5, hl, p2' am2 σ _ (Grow.put hm) rs3 (((re.mono g1).mono g2).mono (Grow.put hm))⟩
          | _ => exact p2.elim
        | _ => cases d <;> exact p2.elim⟩
structure MethIn (K : PySem.W.Frag) (cl : Str → Addr) (c m qual : Str) (st : Stmt) (ps : List Str) : Prop where
  ex : ∃ f fd, Fun K m qual st f fd ∧ Meth K (cl c) m f ∧ ∀ us : List Value, us.length = ps.length → bindArgs fd ⟨us, []⟩ = pure (ps.zip us)
structure MethOk (P : Program) (w : World) (K : PySem.W.Frag) (mg : Str → Option Value) (base : Heap) (cl : Str → Addr) (c m : Str) (k : Nat) (ps : List Str) (F : List D → Sto → Res D) : Prop where
  ex : ∃ f fd, FnOk P w K mg base (L2N.CX P w) k f fd ps (SpD K cl ps.length F) ∧ Meth K (cl c) m f ∧ (∀ us : List Value, us.length = ps.length → bindArgs fd ⟨us, []⟩ = pure (ps.zip us))
theorem MethOk.mono {P : Program} {w : World} {K : PySem.W.Frag} {mg : Str → Option Value} {base : Heap} {k j : Nat} {ps : List Str} {F : List D → Sto → Res D} (d : MethOk P w K mg base cl c m k ps F) (h : k ≤ j) : MethOk P w K mg base cl c m j ps F :=
  let ⟨f, fd, a, b⟩ := d.ex
  ⟨f, fd, a.mono h, b⟩
theorem meth_ok {P : Program} {w : World} {K : PySem.W.Frag} {mg : Str → Option Value} {base : Heap} {k : Nat} {N ps : List Str} {st : Stmt} {qual : Str} {md : Md} {body : Stm} (I : MethIn K cl c m qual st ps) (Sc : FnScope N ps (defScope st))
    (hb : ∀ (f : Addr) (cdv : Value) (A : Around) (outer : List PySem.Env) (s : Shared) (H : Hp) (E : XK), Room k (A.deeper (envOfC qual (defScope st) s.heap.objs.size f cdv)) →
      QB cl (fun c d _ H => E c d H) (cxOf (L2N.CX P w) P w K mg base N qual (defScope st) f cdv A outer s H E) (defBody st) body) :
    MethOk P w K mg base cl c m (k + 1) ps (runD md N.length body) := by
  obtain ⟨f, fd, Fn, hm, hbd⟩ := I.ex
  exact ⟨f, fd, qf_mk Fn Sc (hb f), hm, hbd⟩
/-- o is an object of the class without an attribute of the method's name -/
def isM (c m : Str) (d : D) (S : Sto) : Bool := match insOf S c d with
  | some fs => (fs.lookup m).isNone
  | none => false
def eMeth (c m : Str) (F : List D → Sto → Res D) (oE : Ev D) (fs : List (Ev D)) : Ev D := fun e S => (oE e S).bind fun o S => if isM c m o S = true then (eArgs fs e S).bind fun ds S => F (o :: ds) S else .bad
theorem isM_ok {K : PySem.W.Frag} {am : AM} {H : Hp} {S : Sto} {d : D} {v : V} (r : RelS K cl am S H) (h : VR K am H d v) (e : isM c m d S = true) : ∃ a dx vs, v = .ref a ∧ H a = some (.ins (cl c) dx vs) ∧ vs.lookup m = none := by
  unfold isM at e
  cases q : insOf S c d with
  | none => rw [q] at e; cases e
  | some fs =>
    rw [q] at e
    obtain ⟨k, a, dx, vs, _, ev, _, _, h2, h3⟩ := insOf_ok r h q
    exact ⟨a, dx, vs, ev, h2, h3.none_of (Option.isNone_iff_eq_none.mp e)⟩
theorem qe_meth {k : Nat} {ps : List Str} {F : List D → Sto → Res D} {pl : Sem Bool} (hc : Cls X.K (cl c)) (G : MethOk X.prog X.w X.K X.mg X.base cl c m k ps F) (hr : Room k X.A) (tk : L2N.Takes X W) (ho : QE cl W X o g) (ha : QA cl W X (a :: es) (eArgs fs)) (hn : fs.length + 1 = ps.length := by rfl)
    (hst : starEach (a :: es) X.env = (false, eval a X.env) :: starEach es X.env := by rfl) (hpl : (backTo pos (starEach es X.env)).any (·.1) = false := by rfl)
    (ht : eval (.Call (.Attribute o m apos) (a :: es) [] pos) X.env = (do
      let ov ← eval o X.env
      standAt apos.atName
      let (f, first) ← holding [ov] (getMethod ov m pl)
      callWith pos f first (backTo pos (starEach (a :: es) X.env)) (backToKw pos (keywordEach [] X.env))) := by rfl) :
    QE cl W X (.Call (.Attribute o m apos) (a :: es) [] pos) (eMeth c m F g fs) := by
  obtain ⟨ff, fd, Fk, hm, hbd⟩ := G.ex
  refine (pe_methSg (pl := pl) ho hc hm Fk hr (.all hbd) (fun σ => L2N.passAt tk σ) ha hst hpl ht).imp fun σ H Q ⟨am, e, S, rs, re, p⟩ => ?_
  refine ⟨am, e, S, rs, re, (Post.step p).imp fun x H1 ⟨am1, S1, d, _, g1, rs1, ro, p1⟩ => ?_⟩
  by_cases hi : isM c m d S1 = true
  · rw [if_pos hi] at p1
    obtain ⟨a', dx, vs, ev, h2, h3⟩ := isM_ok rs1 ro hi
    exact ⟨a', dx, vs, ev, h2, h3, am1, e, S1, rs1, re.mono g1, (Post.step p1).imp fun xs H2 ⟨am2, S2, ds, ee, g2, rs2, rvs, p2⟩ => ⟨am2, d :: ds, S2, by rw [List.length_cons, eArgs_len ee, hn], rs2, .cons (ro.mono g2) rvs, p2⟩⟩
  · rw [if_neg hi] at p1
    exact p1.elim
theorem qe_meth0 {k : Nat} {ps : List Str} {F : List D → Sto → Res D} {pl : Sem Bool} (hc : Cls X.K (cl c)) (G : MethOk X.prog X.w X.K X.mg X.base cl c m k ps F) (hr : Room k X.A) (tk : L2N.Takes X W) (ho : QE cl W X o g) (hn : 1 = ps.length := by rfl)
    (ht : eval (.Call (.Attribute o m apos) [] [] pos) X.env = (do
      let ov ← eval o X.env
      standAt apos.atName
      let (f, first) ← holding [ov] (getMethod ov m pl)
      callWith pos f first (backTo pos (starEach [] X.env)) (backToKw pos (keywordEach [] X.env))) := by rfl) :
    QE cl W X (.Call (.Attribute o m apos) [] [] pos) (eMeth c m F g []) := by
  obtain ⟨ff, fd, Fk, hm, hbd⟩ := G.ex
  refine (pe_meth0Sg (pl := pl) ho hc hm Fk hr (.all hbd) (fun σ => L2N.passAt tk σ) ht).imp fun σ H Q ⟨am, e, S, rs, re, p⟩ => ?_
  refine ⟨am, e, S, rs, re, (Post.step p).imp fun x H1 ⟨am1, S1, d, _, g1, rs1, ro, p1⟩ => ?_⟩
  by_cases hi : isM c m d S1 = true
  · rw [if_pos hi] at p1
    obtain ⟨a', dx, vs, ev, h2, h3⟩ := isM_ok rs1 ro hi
    have p2 : Post X.K cl W σ (VR X.K) am1 H1 (F [d] S1) Q := p1
    exact ⟨a', dx, vs, ev, h2, h3, am1, [d], S1, by rw [List.length_singleton, hn], rs1, .cons ro .nil, p2⟩
  · rw [if_neg hi] at p1
    exact p1.elim
structure ClsM (K : PySem.W.Frag) (mg : Str → Option Value) (cl : Str → Addr) (c : Str) : Prop where
  at_ : mg c = some (.ref (cl c))
  mks : PySem.W.makesIn K (cl c) = true
  kp : PySem.W.keepIn K (.ref (cl c)) = true
def eMake (c : Str) (F : List D → Sto → Res D) (fs : List (Ev D)) : Ev D := fun e S => (eArgs fs e S).bind fun ds S => (F (.ref S.length :: ds) (S ++ [.ins c []])).bind fun d S2 => match d with
  | .non => .ok (.ref S.length) S2
  | _ => .bad
theorem made_ok {K : PySem.W.Frag} {am : AM} {H : Hp} {S : Sto} {x dx : Addr} {ds : List D} {vs : List V} {F : List D → Sto → Res D} {σ : L2.St} {Q : VK} {n : Nat} (rs : RelS K cl am S H) (rv : VRs K am H ds vs) (hx : H x = none) (hd : H dx = none) (hne : dx ≠ x) (hn : ds.length + 1 = n)
    (p : Post K cl W σ (VR K) am H ((F (.ref S.length :: ds) (S ++ [.ins c []])).bind fun d S2 => match d with
      | .non => .ok (.ref S.length) S2
      | _ => .bad) Q) :
    SpD K cl n F (.ref x :: vs) (upd (upd H dx (.own x)) x (.ins (cl c) dx [])) (fun v H2 => v = .non ∧ Q (.ref x) H2) (WE W σ) := by
  have hx1 : (upd H dx (.own x)) x = none := by rw [upd_ne (Ne.symm hne)]; exact hx
  have g1 : Grow am am H (upd H dx (.own x)) := Grow.upd hd
  have rs1 : RelS K cl am S (upd H dx (.own x)) := rs.upd hd
  have g2 : Grow am (am.resv x) (upd H dx (.own x)) (upd (upd H dx (.own x)) x (.ins (cl c) dx [])) := Grow.resv hx1
  have rs2 : RelS K cl (am.resv x) S (upd (upd H dx (.own x)) x (.ins (cl c) dx [])) := rs1.resv hx1
  have hm : x ∈ (am.resv x).no := List.mem_cons_self
  have hnad : x ∉ (am.resv x).ad := fun z => (rs1.new hx1) (am.sub x z)
  have rs3 := rs2.push (o := .ins c []) hm hnad ⟨dx, [], upd_same, .nil⟩
  have g3 : Grow am ((am.resv x).push x hm) H (upd (upd H dx (.own x)) x (.ins (cl c) dx [])) := (g1.trans g2).push hm hx
  have rx : VR K ((am.resv x).push x hm) (upd (upd H dx (.own x)) x (.ins (cl c) dx [])) (.ref S.length) (.ref x) := by
    refine .ref ?_
    show (am.ad ++ [x])[S.length]? = some x
    rw [← rs.len, List.getElem?_append_right (Nat.le_refl _), Nat.sub_self]
    rfl
  refine ⟨(am.resv x).push x hm, .ref S.length :: ds, S ++ [.ins c []], by rw [List.length_cons, hn], rs3, .cons rx (rv.mono g3), ?_⟩
  cases q : F (.ref S.length :: ds) (S ++ [.ins c []]) with
  | ok d S2 =>
    rw [q] at p
    cases d with
    | non =>
      have p : Post K cl W σ (VR K) am H (.ok (.ref S.length) S2) Q := p
      intro am' v H' g rs' rv'
      cases rv'
      exact ⟨rfl, p am' _ H' (g3.trans g) rs' (rx.mono g)⟩
    | _ => exact p.elim
  | exc c2 S2 =>
    rw [q] at p
    have p : Post K cl W σ (VR K) am H (.exc c2 S2) Q := p
    exact fun am' H' g rs' => p am' H' (g3.trans g) rs'
  | bad => rw [q] at p; exact p.elim
theorem qe_make {k : Nat} {ps : List Str} {F : List D → Sto → Res D} (M : ClsM X.K X.mg cl c) (G : MethOk X.prog X.w X.K X.mg X.base cl c "__init__" k ps F) (hr : Room (k + 1) X.A) (hg : Gl X c) (tk : L2N.Takes X W) (ha : QA cl W X (a :: es) (eArgs fs)) (hn : fs.length + 1 = ps.length := by rfl) (hdb : (c == ("__debug__" : Str)) = false := by decide)
    (he : starEach (a :: es) X.env = (false, eval a X.env) :: starEach es X.env := by rfl) (hpl : (backTo pos (starEach es X.env)).any (·.1) = false := by rfl) : QE cl W X (.Call (.Name c p) (a :: es) [] pos) (eMake c F fs) := by
  obtain ⟨ff, fd, Fk, hm, hbd⟩ := G.ex
  refine (pe_makeSg ⟨M.mks, hm.at_, hm.fn, M.kp⟩ Fk hr hg M.at_ (.all hbd) (fun σ => L2N.passAt tk σ) ha hdb he hpl).imp fun σ H Q ⟨am, e, S, rs, re, p⟩ => ?_
  exact ⟨am, e, S, rs, re, (Post.step p).imp fun xs H1 ⟨am1, S1, ds, ee, g1, rs1, rvs, p1⟩ => fun x dx hx hd hne => made_ok rs1 rvs hx hd hne (by rw [eArgs_len ee, hn]) p1⟩
theorem qe_make0 {k : Nat} {ps : List Str} {F : List D → Sto → Res D} (M : ClsM X.K X.mg cl c) (G : MethOk X.prog X.w X.K X.mg X.base cl c "__init__" k ps F) (hr : Room (k + 1) X.A) (hg : Gl X c) (tk : L2N.Takes X W) (hn : 1 = ps.length := by rfl) (hdb : (c == ("__debug__" : Str)) = false := by decide) :
    QE cl W X (.Call (.Name c p) [] [] pos) (eMake c F []) := by
  obtain ⟨ff, fd, Fk, hm, hbd⟩ := G.ex
  refine (pe_make0Sg ⟨M.mks, hm.at_, hm.fn, M.kp⟩ Fk hr hg M.at_ (.all hbd) (fun σ => L2N.passAt tk σ) hdb).imp fun σ H Q ⟨am, e, S, rs, re, p⟩ => ?_
  exact fun x dx hx hd hne => made_ok (ds := []) rs .nil hx hd hne (by rw [List.length_nil, ← hn]) p
end
section
variable {f g h : Ev D} {fs : List (Ev D)} {e : En} {S : Sto} {c n m : Str} {k : Nat} {gs : List (Str × D)} {v : D} {F : List D → Sto → Res D}
theorem fldD_ref (h : S[k]? = some (.ins c gs)) : fldD c n (.ref k) S = opt (gs.lookup n) S := by
  unfold fldD
  rw [insOf_ref h]
theorem stF_ref (h : S[k]? = some (.ins c gs)) (hl : gs.length < 1000) : stF c n (.ref k) v S = some (S.set k (.ins c (putFD n v gs))) := by
  simp only [stF, h]
  rw [if_pos ⟨trivial, hl⟩]
theorem isM_ref (h : S[k]? = some (.ins c gs)) (hm : gs.lookup m = none) : isM c m (.ref k) S = true := by
  unfold isM
  rw [insOf_ref h]
  simp only [hm]
  rfl
theorem ap_Fl : sFl c n f g e S = (f e S).stm e fun v S => (g e S).stm e fun o S => match stF c n o v S with
  | some S' => .next e S'
  | none => .bad := id rfl
theorem ap_FlAdd : sFlAdd c n f g e S = (f e S).stm e fun o S => (fldD c n o S).stm e fun w S => (g e S).stm e fun v S => ((intD (fun _ _ => True) fun i j => .int (i + j)) w v S).stm e fun z S => match stF c n o z S with
  | some S' => .next e S'
  | none => .bad := id rfl
theorem ap_Meth : eMeth c m F f fs e S = (f e S).bind fun o S => if isM c m o S = true then (eArgs fs e S).bind fun ds S => F (o :: ds) S else .bad := id rfl
theorem ap_Make : eMake c F fs e S = (eArgs fs e S).bind fun ds S => (F (.ref S.length :: ds) (S ++ [.ins c []])).bind fun d S2 => match d with
  | .non => .ok (.ref S.length) S2
  | _ => .bad := id rfl
end
end Pu
set_option Elab.async false
set_option linter.all false
set_option maxRecDepth 100000
set_option maxHeartbeats 1000000
namespace L2
open PySem PySem.Spec PyProof.Rows
section
variable {X : Cx} {o : Expr} {p pos apos mpos : Pos} {td : TE}
def tListVals (td : TE) : TE := fun σ H Q => td σ H fun x H1 => ∃ a kvs, x = V.ref a ∧ H1 a = some (.dK kvs) ∧ ∀ l, H1 l = none → Q (.ref l) (upd H1 l (.lst (kvs.map (·.2))))
theorem KV.snd {κ : Type} : ∀ {kvs : List (κ × V)} {vs : List (κ × Value)}, KV kvs vs → Vals (kvs.map (·.2)) (vs.map (·.2)) := by
  intro kvs vs r
  unfold KV at r
  induction r with
  | nil => exact .nil
  | cons r t ih => exact .cons r.2 ih
theorem pe_listVals (hc : X.calm = true) (hg : Gl X "list") (hm : X.mg "list" = none) (hd : PE X o td) (hbase : attributeBase o "values" X.env (eval o X.env) = eval o X.env := by rfl) (hline : (apos.endLine == mpos.line) = true := by rfl)
    (hse : starEach [Expr.Call (.Attribute o "values" apos) [] [] mpos] X.env = [(false, eval (Expr.Call (.Attribute o "values" apos) [] [] mpos) X.env)] := by rfl) :
    PE X (.Call (.Name "list" p) [.Call (.Attribute o "values" apos) [] [] mpos] [] pos) (tListVals td) := by
  refine ⟨fun pins s σ H Q I h => ?_⟩
  refine wpAny_Call_Name_kw (ld_blt I hg hm (u := .type "list") (by first | rfl | decide +kernel) ?_ (by first | decide +kernel | decide) (by first | decide +kernel | decide))
  rw [hse]
  refine PySem.callWith_type1 (wpAny_Call_method0_late hbase hline (thn (hd.run pins s σ H _ I h) fun v s1 ⟨x, H1, I1, r1, a, kvs, ex, ha, q⟩ => ?_))
  subst ex
  obtain rfl : v = Value.ref a := r1
  obtain ⟨hz, hsys, vs, rel, dof⟩ := dk_of I1.hok ha
  obtain ⟨ep, dat⟩ := dof.dictAt
  have dat' := dat
  obtain ⟨ob, es, ho, ex, hdat, hko, hpr, hnd⟩ := dat'
  refine ⟨"dict", "dict.values", F.plainAttrs_dict, F.slot_dict_values, F.type_dict_values, ⟨ob, ho, ex.1⟩, fun b e => ?_, Calls.callWith_builtin rfl (PySem.evalArgs_none ?_)⟩
  · cases e
    exact ⟨ob, ho, ex.2.1⟩
  refine call_meetsIn F.slot_dict_values ⟨ob, ho, ex.1⟩ F.entry_dict_values (F.args_dict_values_1 _) (meets_dict_values (mixKind X.prog X.w) a hsys) ⟨⟨vs, dof⟩, ?_⟩
  have dat1 : (s1.heap.push { cls := .type "dict_values", data := .fields #[.ref a] }).DictAt (mixKind X.prog X.w) a vs ep := dat.keep fun b u e => Heap.get?_push_of_some _ e
  have hlen : vs.length ≤ sizeLine := by
    rw [← KV.length rel]
    exact hz
  refine PySem.W.kdl_call (PySem.W.kdl_values (r := s1.heap.objs.size) (d := a) (kvs := vs) (knd := mixKind X.prog X.w) (ep := ep)) (I1.ok.hd hc) ⟨⟨_, Heap.get?_push_size _ rfl, rfl, rfl⟩, dat1⟩ hlen fun h' tk acc' c' hk hS hacc => ?_
  have hacc2 : acc'.toList = vs.map (·.2) := PySem.W.kdl_vals_eq acc'.toList (by rw [Array.length_toList]; exact hacc.1) fun j v e => hacc.2 j v (by rw [← Array.getElem?_toList]; exact e)
  have k1 : ∀ b u, s1.heap.get? b = some u → h'.get? b = some u := fun b u e => hk b u (Heap.get?_push_of_some _ e)
  have hsz : (s1.heap.push { cls := .type "dict_values", data := .fields #[.ref a] }).objs.size = s1.heap.objs.size + 1 := Heap.size_push _ _
  rw [hsz] at hS ⊢
  have hrel := KV.snd rel
  refine ⟨.ref (s1.heap.objs.size + 1), _, I1.laid (t' := tk) k1 (Nat.le_succ _) (show ObjOk X.prog X.w _ h' _ (.lst (kvs.map (·.2))) from ⟨?_, acc'.toList, c', by rw [hacc2]; exact hrel, by rw [Array.toArray_toList]; exact hS⟩), rfl, q _ (I1.hok.fresh (Nat.le_succ _))⟩
  rw [List.length_map]
  exact hz
end
end L2
namespace Pu
open PySem PySem.Spec PyProof.Rows L2
section
variable {cl : Str → Addr} {W : WX} {X : Cx} {a b c : Expr} {es : List Expr} {f g h : Ev D} {fs : List (Ev D)} {pos p apos cpos mpos : Pos}
def ii3D (ds : List D) (S : Sto) : Res D := match ds with
  | [.int i, .int j, .int k] => .ok (.int (minI (minI i j) k)) S
  | _ => .bad
theorem nuMin2_int (i j : Int) : nuMin2 (.int i) (.int j) = some (.int (minI i j)) := by
  show (some (decide (j < i))).map _ = _
  unfold minI
  by_cases h : j < i
  · simp [h]
  · simp [h]
theorem ok_ii3 : OkN X.K cl (rNuC3 nuMin3) ii3D := by
  intro W σ am S H ds vs Q rs h1 pp
  unfold ii3D at pp
  split at pp
  · rename_i i j k
    cases h1 with
    | cons r1 h1 =>
      cases r1
      cases h1 with
      | cons r2 h1 =>
        cases r2
        cases h1 with
        | cons r3 h1 =>
          cases r3
          cases h1
          refine ⟨.int i, .int j, .int k, .int (minI (minI i j) k), rfl, ?_, pp am _ H .refl rs (.int _)⟩
          unfold nuMin3
          rw [nuMin2_int]
          exact nuMin2_int _ _
  · exact pp.elim
theorem qe_min3 (hc : X.calm = true) (hg : Gl X "min") (hm : X.mg "min" = none) (ha : QA cl W X [a, b, c] (eArgs fs)) (he : starEach [a, b, c] X.env = (false, eval a X.env) :: starEach [b, c] X.env := by rfl) (hpl : (backTo pos (starEach [b, c] X.env)).any (·.1) = false := by rfl) :
    QE cl W X (.Call (.Name "min" p) [a, b, c] [] pos) (eCall ii3D fs) := qe_callB (call_min3Nu hc) ok_ii3 hg hm (by decide +kernel) ha (by decide) (by decide) he hpl
def dropD (kvs : List (Key × D)) (k : Key) : List (Key × D) := kvs.filter fun kv => decide (kv.1 ≠ k)
def popK (o i z : D) (S : Sto) : Res D := match o with
  | .ref n => match S[n]? with
    | some (.dct kvs) => match keyOf i with
      | some k => match getK kvs k with
        | some v => .ok v (S.set n (.dct (dropD kvs k)))
        | none => .ok z S
      | none => .bad
    | _ => .bad
  | _ => .bad
theorem VRk.drop {K : PySem.W.Frag} {am : AM} {H : Hp} (k : Key) : ∀ {ds : List (Key × D)} {vs : List (Key × V)}, VRk K am H ds vs → VRk K am H (dropD ds k) (dropK vs k)
  | _, _, .nil => .nil
  | _, _, .cons (k := k') (ds := ds) (vs := vs) r t => by
    have ih := VRk.drop k t
    unfold dropD dropK at ih ⊢
    rw [List.filter_cons, List.filter_cons]
    by_cases e : k' = k
    · simp only [e, ne_eq, not_true_eq_false, decide_false, Bool.false_eq_true, if_false]
      exact ih
    · simp only [e, ne_eq, not_false_eq_true, decide_true, if_true]
      exact .cons r ih
def ePopK (f g h : Ev D) : Ev D := fun e S => (f e S).bind fun o S => if (dcOf S o).isSome = true then (g e S).bind fun i S => (h e S).bind fun z S => popK o i z S else .bad
theorem qe_popK (ho : QE cl W X a f) (hi : QE cl W X b g) (hz : QE cl W X c h)
    (m1 : attributeBase a "pop" X.env (eval a X.env) = eval a X.env := by rfl)
    (m2 : ((backTo cpos (starEach [b, c] X.env)).all (fun x => !x.1) && (backToKw cpos (keywordEach [] X.env)).all (fun x => x.1.isSome) && decide (([b, c] : List Expr).length + ([] : List Keyword).length + (if ([] : List Keyword).isEmpty then 0 else 1) < 30)) = true := by rfl)
    (m3 : (apos.endLine == cpos.line) = true := by rfl) (m4 : backTo cpos (starEach [b, c] X.env) = [(false, eval b X.env), (false, eval c X.env)] := by rfl) :
    QE cl W X (.Call (.Attribute a "pop" apos) [b, c] [] cpos) (ePopK f g h) :=
  (pe_dpop2 ho hi hz ⟨m1, m2, m3, m4⟩).imp fun σ H Q ⟨am, e, S, rs, re, q0⟩ =>
    ⟨am, e, S, rs, re, (Post.step q0).imp fun x H1 ⟨am1, S1, d1, _, g1, rs1, rv1, q1⟩ => by
      cases e1 : dcOf S1 d1 with
      | none => simp only [e1] at q1; exact q1.elim
      | some kvs =>
        simp only [e1, Option.isSome_some, if_true] at q1
        obtain ⟨l, us, ev, h1, h2⟩ := dcOf_ok rs1 rv1 e1
        subst ev
        refine ⟨l, rfl, .inl ⟨us, .inl h1⟩, am1, e, S1, rs1, re.mono g1, (Post.step q1).imp fun y H2 ⟨am2, S2, d2, _, g2, rs2, rv2, q2⟩ => ?_⟩
        refine ⟨am2, e, S2, rs2, (re.mono g1).mono g2, (Post.step q2).imp fun z H3 ⟨am3, S3, d3, _, g3, rs3, rv3, q3⟩ => ?_⟩
        have rv1' := (rv1.mono g2).mono g3
        unfold popK at q3
        cases rv1' with
        | @ref n _ hn =>
          simp only at q3
          cases e2 : S3[n]? with
          | none => rw [e2] at q3; exact q3.elim
          | some ob =>
            rw [e2] at q3
            cases ob with
            | lst _ => exact q3.elim
            | ins _ _ => exact q3.elim
            | dct kvs3 =>
              simp only at q3
              cases e3 : keyOf d2 with
              | none => rw [e3] at q3; exact q3.elim
              | some k =>
                rw [e3] at q3
                simp only at q3
                obtain ⟨us3, h3, h4⟩ := rs3.ob n _ l e2 hn
                have hm : l ∈ am3.ad := List.mem_of_getElem? hn
                refine ⟨us3, k, h3, keyOf_ok (rv2.mono g3) e3, fun v hv => ?_, fun hv => ?_⟩
                · rcases h4.get k with ⟨n1, n2⟩ | ⟨d, v', n1, n2, n3⟩
                  · rw [n2] at hv; cases hv
                  · rw [n2] at hv
                    cases hv
                    rw [n1] at q3
                    exact q3 am3 _ _ (Grow.put hm) (rs3.put hn ⟨_, upd_same, (h4.drop k).mono (Grow.put hm)⟩) (n3.mono (Grow.put hm))
                · rcases h4.get k with ⟨n1, n2⟩ | ⟨d, v', n1, n2, n3⟩
                  · rw [n1] at q3
                    exact q3 am3 _ H3 .refl rs3 rv3
                  · rw [n2] at hv; cases hv
        | _ => exact q3.elim⟩
def nVals (f : Ev D) : Ev DO := fun e S => (f e S).bind fun d S => match dcOf S d with
  | some kvs => .ok (.lst (kvs.map (·.2))) S
  | none => .bad
theorem VRk.vals {K : PySem.W.Frag} {am : AM} {H : Hp} : ∀ {ds : List (Key × D)} {vs : List (Key × V)}, VRk K am H ds vs → VRs K am H (ds.map (·.2)) (vs.map (·.2))
  | _, _, .nil => .nil
  | _, _, .cons r t => .cons r (VRk.vals t)
theorem qn_vals (hc : X.calm = true) (hg : Gl X "list") (hm : X.mg "list" = none) (ha : QE cl W X a f) (hbase : attributeBase a "values" X.env (eval a X.env) = eval a X.env := by rfl) (hline : (apos.endLine == mpos.line) = true := by rfl)
    (hse : starEach [Expr.Call (.Attribute a "values" apos) [] [] mpos] X.env = [(false, eval (Expr.Call (.Attribute a "values" apos) [] [] mpos) X.env)] := by rfl) :
    QN cl W X (.Call (.Name "list" p) [.Call (.Attribute a "values" apos) [] [] mpos] [] pos) (nVals f) :=
  (pe_listVals hc hg hm ha hbase hline hse).imp fun σ H Q ⟨am, e, S, rs, re, q0⟩ =>
    ⟨am, e, S, rs, re, (PostN.step q0).imp fun x H1 ⟨am1, S1, d1, _, g1, rs1, rv1, q1⟩ => by
      cases e1 : dcOf S1 d1 with
      | none => simp only [e1] at q1; exact q1.elim
      | some kvs =>
        simp only [e1] at q1
        obtain ⟨l, us, ev, h1, h2⟩ := dcOf_ok rs1 rv1 e1
        subst ev
        exact ⟨l, us, rfl, h1, fun q hq => q1.laid g1 rs1 hq ⟨_, upd_same, h2.vals.mono (Grow.resv hq)⟩⟩⟩
end
section
variable {f g h : Ev D} {e : En} {S : Sto} {n : Nat} {kvs : List (Key × D)} {i j k : Int} {z : D}
@[simp] theorem ii3_ap : ii3D [.int i, .int j, .int k] S = .ok (.int (minI (minI i j) k)) S := id rfl
theorem ap_PopK : ePopK f g h e S = (f e S).bind fun o S => if (dcOf S o).isSome = true then (g e S).bind fun i S => (h e S).bind fun z S => popK o i z S else .bad := id rfl
theorem ap_Vals : nVals f e S = (f e S).bind fun d S => match dcOf S d with
  | some kvs => .ok (.lst (kvs.map (·.2))) S
  | none => .bad := id rfl
theorem popK_ref (h : S[n]? = some (.dct kvs)) : popK (.ref n) (.int i) z S = match getK kvs (.inl i) with
    | some v => .ok v (S.set n (.dct (dropD kvs (.inl i))))
    | none => .ok z S := by
  unfold popK
  simp only [h, keyOf]
end
end Pu
set_option Elab.async false
set_option linter.all false
set_option maxRecDepth 100000
set_option maxHeartbeats 1000000
namespace Pu
open PySem PySem.Spec PyProof.Rows L2
section
variable {cl : Str → Addr} {W : WX} {X : Cx} {a b c : Expr} {f g h : Ev D} {pos : Pos}
theorem hu_ofH {A : Around} {k : Nat} (hr : L2H.RoomH k A) : A.units + 1 < cLine := by have := hr.un; omega
theorem unitsH {A : Around} {k : Nat} (hr : L2H.RoomH k A) : A.units + 64 < cLine := by have := hr.un; omega
theorem qe_ixH {k : Nat} (hr : L2H.RoomH k X.A) (ha : QE cl W X a f) (hb : QE cl W X b g) (hs : PlainIx b := by intro _ _; rfl) : QE cl W X (.Subscript a b pos) (e2 ixD f g) :=
  (pe_ix (ix_seq.or (ix_key (hu_ofH hr))) ha hb hs).imp (imp_2 fun W σ am S H d e v u Q rs h1 h2 p => by
    unfold ixD at p
    cases q : dcOf S d with
    | some kvs =>
      rw [q] at p
      obtain ⟨a, vs, ev, r1, hk⟩ := dcOf_ok rs h1 q
      simp only at p
      cases q2 : keyOf e with
      | none => rw [q2] at p; exact p.elim
      | some k =>
        rw [q2] at p
        simp only at p
        have eu := keyOf_ok h2 q2
        rcases hk.get k with ⟨g1, g2⟩ | ⟨d', v', g1, g2, rv⟩
        · rw [g1] at p; exact p.elim
        · rw [g1] at p
          refine .inr ⟨a, v', ev, .inl ⟨vs, k, .inl r1, eu, g2.symm⟩, p am v' H .refl rs rv⟩
    | none =>
      rw [q] at p
      simp only at p
      cases h2 with
      | int j =>
        have seq : Post X.K cl W σ (VR X.K) am H (match sqOf S d with | some xs => opt (atI xs j) S | none => .bad) Q → rIxL X.K v (.int j) H Q ∨ rIxT X.K v (.int j) H Q ∨ rIxS v (.int j) H Q := fun p => by
          cases q3 : sqOf S d with
          | none => rw [q3] at p; exact p.elim
          | some xs =>
            rw [q3] at p
            simp only at p
            obtain ⟨a, vs, ev, hq, hs⟩ := sqOf_ok rs h1 q3
            cases q4 : atI xs j with
            | none => rw [q4] at p; exact p.elim
            | some d' =>
              rw [q4] at p
              obtain ⟨v', hv', rv⟩ := atI_some hs q4
              have := p am v' H .refl rs rv
              rcases hq with hq | hq
              · exact .inl ⟨a, vs, j, v', ev, rfl, hq, hv', this⟩
              · exact .inr (.inl ⟨a, vs, j, v', ev, rfl, hq, hv', this⟩)
        refine .inl ?_
        cases h1 with
        | str x =>
          simp only at p
          by_cases hz : x.length ≤ sizeLine
          · rw [if_pos hz] at p
            cases q4 : atI x.cps.toList j with
            | none => rw [q4] at p; exact p.elim
            | some c =>
              rw [q4] at p
              exact .inr (.inr ⟨x, j, c, rfl, rfl, hz, q4, p am _ H .refl rs (.str _)⟩)
          · rw [if_neg hz] at p
            exact p.elim
        | _ => exact seq p
      | _ => exact p.elim)
theorem qe_eqH {k : Nat} (hr : L2H.RoomH k X.A) (ha : QE cl W X a f) (hb : QE cl W X b g) : QE cl W X (.Compare a [.Eq] [b] pos) (e2 (eqD false) f g) := qe_cmp (op_eqD (unitsH hr)) ok_eq ha hb (nomark _)
theorem qe_neH {k : Nat} (hr : L2H.RoomH k X.A) (ha : QE cl W X a f) (hb : QE cl W X b g) : QE cl W X (.Compare a [.NotEq] [b] pos) (e2 (eqD true) f g) := qe_cmp (op_neD (unitsH hr)) ok_ne ha hb (nomark _)
theorem qt_eqH {k : Nat} (hr : L2H.RoomH k X.A) (ha : QE cl W X a f) (hb : QE cl W X b g) : QT cl W X (.Compare a [.Eq] [b] pos) (eTB (e2 (eqD false) f g)) := qt_cmp (op_eqD (unitsH hr)) ok_eq ha hb (nomark _)
theorem qt_neH {k : Nat} (hr : L2H.RoomH k X.A) (ha : QE cl W X a f) (hb : QE cl W X b g) : QT cl W X (.Compare a [.NotEq] [b] pos) (eTB (e2 (eqD true) f g)) := qt_cmp (op_neD (unitsH hr)) ok_ne ha hb (nomark _)
end
end Pu
set_option Elab.async false
set_option linter.all false
set_option maxRecDepth 100000
set_option maxHeartbeats 1000000
namespace Pu
open PySem PySem.Spec PyProof.Rows L2
def nDctS (ks : List Str) (fs : List (Ev D)) : Ev DO := fun e S => (eArgs fs e S).bind fun ds S => .ok (.dct ((ks.zip ds).map fun p => (.inr p.1, p.2))) S
def trsK (K : PySem.W.Frag) (cl : Str → Addr) (W : WX) (l : List (Str × Ev D)) : List (TE × TE) := l.map fun p => (tC (.str p.1), TD K cl W (VR K) p.2)
section
variable {cl : Str → Addr} {W : WX} {X : Cx} {v : Expr} {f : Ev D} {pos p : Pos} {ks : List (Option Expr)} {vs : List Expr} {l : List (Str × Ev D)} {k : Str} {j : Nat}
theorem qps_nil : PPs X pos [] [] (trsK X.K cl W []) := pps_nil
theorem qps_cons {j} (hv : QE cl W X v f) (hr : PPs X pos ks vs (trsK X.K cl W l)) : PPs X pos (some (.Constant (.str k) j p) :: ks) (v :: vs) (trsK X.K cl W ((k, f) :: l)) := pps_cons pe_str hv hr
end
section
variable {K : PySem.W.Frag} {cl : Str → Addr} {W : WX} {σ : L2.St}
theorem pairs_ok : ∀ (l : List (Str × Ev D)) (am : AM) (e : En) (S : Sto) (H : Hp) (Q : List (V × V) → Hp → Prop), RelS K cl am S H → RelE K am H e σ →
    Post K cl W σ (VRs K) am H (eArgs (l.map (·.2)) e S) (fun vs H' => Q (((l.map (·.1)).zip vs).map fun p => (.str p.1, p.2)) H') → tPairs (trsK K cl W l) σ H Q
  | [], am, e, S, H, Q, rs, re, p => p am [] H .refl rs .nil
  | (k, f) :: l, am, e, S, H, Q, rs, re, p => by
    show TD K cl W (VR K) f σ H (fun y H2 => tPairs (trsK K cl W l) σ H2 fun ps H3 => Q ((.str k, y) :: ps) H3)
    have p : Post K cl W σ (VRs K) am H ((f e S).bind fun x S => (eArgs (l.map (·.2)) e S).bind fun xs S => .ok (x :: xs) S) _ := p
    refine ⟨am, e, S, rs, re, (Post.step p).imp fun y H1 ⟨am1, S1, d, _, g1, rs1, rv, p1⟩ => ?_⟩
    refine pairs_ok l am1 e S1 H1 _ rs1 (re.mono g1) ((Post.step p1).imp fun ys H2 ⟨am2, S2, ds, _, g2, rs2, rvs, p2⟩ => ?_)
    exact p2 am2 (y :: ys) H2 .refl rs2 (.cons (rv.mono g2) rvs)
theorem putK_new {kvs : List (Key × V)} {k : Key} {v : V} (h : k ∉ kvs.map (·.1)) : putK kvs k v = kvs ++ [(k, v)] := by
  unfold putK
  rw [if_neg]
  intro z
  obtain ⟨p, hp, e⟩ := List.any_eq_true.mp z
  exact h (List.mem_map.mpr ⟨p, hp, of_decide_eq_true e⟩)
theorem mergeK_new : ∀ (more kvs : List (Key × V)), (kvs.map (·.1) ++ more.map (·.1)).Nodup → mergeK kvs more = kvs ++ more
  | [], kvs, _ => by simp [mergeK]
  | (k, v) :: more, kvs, h => by
    show mergeK (putK kvs k v) more = _
    have h1 : k ∉ kvs.map (·.1) := fun z => by
      rw [List.map_cons, List.nodup_append] at h
      exact h.2.2 k z k List.mem_cons_self rfl
    rw [putK_new h1, mergeK_new more (kvs ++ [(k, v)]) (by rw [List.map_append]; simpa using h)]
    simp
theorem VRk_zip {am : AM} {H : Hp} : ∀ (ks : List Str) {ds : List D} {vs : List V}, VRs K am H ds vs → VRk K am H ((ks.zip ds).map fun p => (.inr p.1, p.2)) ((ks.zip vs).map fun p => (.inr p.1, p.2))
  | [], _, _, _ => .nil
  | k :: ks, _, _, .nil => .nil
  | k :: ks, _, _, .cons h t => .cons h (VRk_zip ks t)
theorem zip_keys {β : Type} : ∀ (ks : List Str) (vs : List β), (((ks.zip vs).map fun p => ((.inr p.1 : Key), p.2)).map (·.1)).Sublist (ks.map (Sum.inr : Str → Key))
  | [], _ => by simp
  | k :: ks, [] => by simp
  | k :: ks, v :: vs => by simpa using zip_keys ks vs
end
section
variable {cl : Str → Addr} {W : WX} {X : Cx} {f : Ev D} {pos p : Pos} {keys : List (Option Expr)} {values : List Expr} {l : List (Str × Ev D)}
theorem qn_dctS (h : PPs X pos keys values (trsK X.K cl W l)) (hall : keys.all (·.isSome) = true := by rfl) (hl : keys.length = values.length := by rfl) (h0 : keys ≠ [] := by simp) (h15 : keys.length ≤ 15 := by decide)
    (hnd : (l.map (·.1)).Nodup := by decide +kernel) (hl2 : l.length ≤ 15 := by decide) : QN cl W X (.Dict keys values pos) (nDctS (l.map (·.1)) (l.map (·.2))) :=
  (pe_disp h hall hl h0 h15).imp fun σ H Q ⟨am, e, S, rs, re, p⟩ => fun q hq => by
    have rs1 := rs.resv (o := .dK []) hq
    have hqd : q ∉ am.ad := fun z => (rs.new hq) (am.sub q z)
    refine pairs_ok l (am.resv q) e S _ _ rs1 (re.mono (Grow.resv hq)) ?_
    unfold nDctS at p
    cases er : eArgs (l.map (·.2)) e S with
    | bad => rw [er] at p; exact p.elim
    | exc c S1 =>
      rw [er] at p
      exact fun am' H' g rs' => p am' H' ((Grow.resv hq).trans g) rs'
    | ok ds S1 =>
      rw [er, Res.bind_ok] at p
      intro am' vs H' g rs' rvs
      have hH : H' q = some (.dK []) := g.keep q _ upd_same hqd
      have hqd' : q ∉ am'.ad := g.inNo ⟨_, upd_same⟩ hqd
      have hqn : q ∈ am'.no := g.noK q List.mem_cons_self
      refine ⟨hH, ((l.map (·.1)).zip vs).map (fun p => (.inr p.1, p.2)), ?_, ?_, ?_⟩
      · rw [List.map_map]
        rfl
      · rw [List.length_map, List.length_zip, List.length_map]
        omega
      · have hm : mergeK [] (((l.map (·.1)).zip vs).map fun p => ((Sum.inr p.1 : Key), p.2)) = ((l.map (·.1)).zip vs).map fun p => ((Sum.inr p.1 : Key), p.2) := by
          rw [mergeK_new]
          · rfl
          · rw [List.map_nil, List.nil_append]
            refine List.Nodup.sublist (zip_keys _ _) ?_
            unfold List.Nodup at hnd ⊢
            rw [List.pairwise_map]
            exact hnd.imp fun hne e => hne (by cases e; rfl)
        rw [hm]
        exact p am' q _ (((Grow.resv hq).trans g).own hq) (rs'.own hqn hqd') hq hqn hqd' ⟨_, upd_same, (VRk_zip _ rvs).ext (Ext.own hqn)⟩
end
/-- a dict of the store written to -/
def stK (o i v : D) (S : Sto) : Option Sto := match o with
  | .ref k => match S[k]? with
    | some (.dct kvs) => (keyOf i).bind fun q => if kvs.length < sizeLine then some (S.set k (.dct (putD kvs q v))) else none
    | _ => none
  | _ => none
def sDaug (fo fi f : Ev D) : Stm := fun e S => (fo e S).stm e fun o S => (fi e S).stm e fun i S => if (dcOf S o).isSome = true then (ixD o i S).stm e fun x S => (f e S).stm e fun y S => match x with
  | .int a => match y with
    | .int b => match stK o i (.int (a + b)) S with
      | some S' => .next e S'
      | none => .bad
    | _ => .bad
  | _ => .bad else .bad
section
variable {cl : Str → Addr} {W : WX} {X : Cx} {a b c : Expr} {f g h : Ev D} {pos tpos : Pos}
theorem qs_daug {k : Nat} (hr : Room k X.A) (ho : QE cl W X a f) (hi : QE cl W X b g) (hv : QE cl W X c h)
    (hu : ∀ ov iv new, augStore b ov iv new = (do holding [new, ov, iv] (setItem ov iv new); release [new, ov, iv] []; pure .next) := by intros; rfl) : QS cl W X (.AugAssign (.Subscript a b tpos) .Add c pos) (sDaug f g h) :=
  (ps_daug (hu_of hr) ho hi hv iop_add hu).imp fun E σ H ⟨am, e, S, rs, re, p⟩ =>
    ⟨am, e, S, rs, re, (PostS.step re p).imp fun x H1 ⟨am1, S1, d1, _, g1, rs1, rv1, p1⟩ =>
      ⟨am1, e, S1, rs1, re.mono g1, (PostS.step (re.mono g1) p1).imp fun y H2 ⟨am2, S2, d2, _, g2, rs2, rv2, p2⟩ => by
        cases q : dcOf S2 d1 with
        | none =>
          simp only [q, Option.isSome_none, Bool.false_eq_true, if_false] at p2
          exact p2.elim
        | some kvs =>
          obtain ⟨l, vs, ev, r1, hk⟩ := dcOf_ok rs2 (rv1.mono g2) q
          have ei : ixD d1 d2 S2 = match keyOf d2 with
              | some k => opt (getK kvs k) S2
              | none => .bad := by
            unfold ixD
            simp only [q]
            all_goals (cases keyOf d2 <;> rfl)
          simp only [q, Option.isSome_some, if_true] at p2
          rw [ei] at p2
          cases q2 : keyOf d2 with
          | none => rw [q2] at p2; exact p2.elim
          | some ky =>
            rw [q2] at p2
            simp only at p2
            have eu := keyOf_ok rv2 q2
            rcases hk.get ky with ⟨n1, n2⟩ | ⟨d', v', n1, n2, rv⟩
            · rw [n1] at p2; exact p2.elim
            · rw [n1] at p2
              simp only [opt_some, Res.stm_ok] at p2
              refine ⟨l, v', ev, .inl ⟨vs, ky, .inl r1, eu, n2.symm⟩, am2, e, S2, rs2, (re.mono g1).mono g2, (PostS.step ((re.mono g1).mono g2) p2).imp fun z H3 ⟨am3, S3, d3, _, g3, rs3, rv3, p3⟩ => ?_⟩
              cases d' with
              | int i =>
                cases rv
                cases d3 with
                | int j =>
                  cases rv3
                  simp only at p3
                  refine ⟨i, j, rfl, rfl, ?_⟩
                  cases q4 : stK d1 d2 (.int (i + j)) S3 with
                  | none => rw [q4] at p3; exact p3.elim
                  | some S' =>
                    rw [q4] at p3
                    simp only at p3
                    have rvo := (rv1.mono g2).mono g3
                    subst ev
                    cases rvo with
                    | @ref n a hn =>
                      simp only [stK] at q4
                      cases e1 : S3[n]? with
                      | none => rw [e1] at q4; cases q4
                      | some ob =>
                        rw [e1] at q4
                        cases ob with
                        | lst xs => cases q4
                        | dct kvs3 =>
                          obtain ⟨us, u1, u2⟩ := rs3.ob n _ l e1 hn
                          simp only [q2, Option.bind_some] at q4
                          by_cases hz : kvs3.length < sizeLine
                          · rw [if_pos hz] at q4
                            cases q4
                            have hm : l ∈ am3.ad := List.mem_of_getElem? hn
                            exact ⟨_, .inl ⟨us, ky, u1, eu, by rw [← u2.length]; exact hz, rfl⟩, p3 am3 σ _ (Grow.put hm) (rs3.put hn ⟨_, upd_same, (u2.put ky (.int _)).mono (Grow.put hm)⟩) ((((re.mono g1).mono g2).mono g3).mono (Grow.put hm))⟩
                          · rw [if_neg hz] at q4
                            cases q4
                        | ins c fs => cases q4
                    | _ => cases q4
                | _ => exact p3.elim
              | _ => exact p3.elim⟩⟩
end
def strI (ds : List D) (S : Sto) : Res D := match ds with
  | [.int i] => if i.natAbs.log2 < 1920 then .ok (.str (Str.ofString (toString i))) S else .bad
  | _ => .bad
def intT (ds : List D) (S : Sto) : Res D := match ds with
  | [.str a] => match PySem.intText? a with
    | some n => if a.length ≤ 640 then .ok (.int n) S else .bad
    | none => .bad
  | _ => .bad
section
variable {cl : Str → Addr} {W : WX} {X : Cx} {a b : Expr} {f g : Ev D} {fs : List (Ev D)} {pos p apos : Pos}
theorem ok_strI : OkN X.K cl (fun xs H Q => ∃ i, xs = [.int i] ∧ i.natAbs.log2 < 1920 ∧ Q (.str (toString i)) H) strI := by
  intro W σ am S H ds vs Q rs h1 pp
  unfold strI at pp
  split at pp
  · rename_i i
    cases h1 with
    | cons r1 h1 =>
      cases r1
      cases h1
      split at pp
      · rename_i hz
        exact ⟨i, rfl, hz, pp am _ H .refl rs (.str _)⟩
      · exact pp.elim
  · exact pp.elim
theorem ok_intT : OkN X.K cl (fun xs H Q => ∃ a n, xs = [.str a] ∧ PySem.intText? a = some n ∧ a.length ≤ 640 ∧ Q (.int n) H) intT := by
  intro W σ am S H ds vs Q rs h1 pp
  unfold intT at pp
  split at pp
  · rename_i x
    cases h1 with
    | cons r1 h1 =>
      cases r1
      cases h1
      split at pp
      · rename_i n hn
        split at pp
        · rename_i hz
          exact ⟨x, n, rfl, hn, hz, pp am _ H .refl rs (.int _)⟩
        · exact pp.elim
      · exact pp.elim
  · exact pp.elim
theorem qe_strI (hg : Gl X "str") (hm : X.mg "str" = none) (ha : QA cl W X [a] (eArgs fs)) (he : starEach [a] X.env = (false, eval a X.env) :: starEach [] X.env := by rfl) (hpl : (backTo pos (starEach [] X.env)).any (·.1) = false := by rfl) : QE cl W X (.Call (.Name "str" p) [a] [] pos) (eCall strI fs) := qe_callT call_str_int ok_strI hg hm (by decide +kernel) ha (by decide) (by decide) he hpl
theorem qe_intT (hg : Gl X "int") (hm : X.mg "int" = none) (ha : QA cl W X [a] (eArgs fs)) (he : starEach [a] X.env = (false, eval a X.env) :: starEach [] X.env := by rfl) (hpl : (backTo pos (starEach [] X.env)).any (·.1) = false := by rfl) : QE cl W X (.Call (.Name "int" p) [a] [] pos) (eCall intT fs) := qe_callT call_int_str ok_intT hg hm (by decide +kernel) ha (by decide) (by decide) he hpl
def splOk (a b : Str) : Prop := (b.length == 0) = false ∧ a.length + 2 ≤ sizeLine
instance (a b : Str) : Decidable (splOk a b) := by unfold splOk; infer_instance
def nSplit (f g : Ev D) : Ev DO := fun e S => (f e S).bind fun d S => match d with
  | .str a => (g e S).bind fun c S => match c with
    | .str b => if splOk a b then .ok (.lst ((Txt.split a b).map D.str)) S else .bad
    | _ => .bad
  | _ => .bad
def ePart (f g : Ev D) : Ev D := fun e S => (f e S).bind fun d S => match d with
  | .str a => (g e S).bind fun c S => match c with
    | .str b => if splOk a b then .ok (.tpi [.str (Txt.partition a b).1, .str (Txt.partition a b).2.1, .str (Txt.partition a b).2.2]) S else .bad
    | _ => .bad
  | _ => .bad
theorem VRs_strs {K : PySem.W.Frag} {am : AM} {H : Hp} : ∀ ys : List Str, VRs K am H (ys.map D.str) (ys.map V.str)
  | [] => .nil
  | y :: ys => .cons (.str y) (VRs_strs ys)
theorem qn_split (ha : QE cl W X a f) (hb : QE cl W X b g) (hs : starEach [b] X.env = [(false, eval b X.env)] := by rfl) (hbase : attributeBase a "split" X.env (eval a X.env) = eval a X.env := by rfl) (hline : (apos.endLine == pos.line) = true := by rfl) :
    QN cl W X (.Call (.Attribute a "split" apos) [b] [] pos) (nSplit f g) :=
  (pe_split ha hb hs hbase hline).imp fun σ H Q ⟨am, e, S, rs, re, p⟩ =>
    ⟨am, e, S, rs, re, (PostN.step p).imp fun x H1 ⟨am1, S1, d, _, g1, rs1, rv, p1⟩ => by
      cases d with
      | str s =>
        cases rv
        have p1 : PostN X.K cl W σ am H ((g e S1).bind fun c S => match c with
          | .str b => if splOk s b then .ok (.lst ((Txt.split s b).map D.str)) S else .bad
          | _ => .bad) Q := p1
        refine ⟨⟨s, rfl⟩, am1, e, S1, rs1, re.mono g1, ?_⟩
        cases eg : g e S1 with
        | bad => rw [eg] at p1; exact p1.elim
        | exc c S2 =>
          rw [eg] at p1
          exact fun am' H' g2 rs2 => p1 am' H' (g1.trans g2) rs2
        | ok c S2 =>
          rw [eg, Res.bind_ok] at p1
          intro am2 y H2 g2 rs2 rv2
          cases c with
          | str t =>
            cases rv2
            simp only at p1
            split at p1
            · rename_i hz
              exact ⟨s, t, rfl, rfl, hz.1, hz.2, fun q hq => p1.laid (g1.trans g2) rs2 hq ⟨_, upd_same, VRs_strs _⟩⟩
            · exact p1.elim
          | _ => exact p1.elim
      | _ => exact p1.elim⟩
theorem qe_part (ha : QE cl W X a f) (hb : QE cl W X b g) (hs : starEach [b] X.env = [(false, eval b X.env)] := by rfl) (hbase : attributeBase a "partition" X.env (eval a X.env) = eval a X.env := by rfl) (hline : (apos.endLine == pos.line) = true := by rfl) :
    QE cl W X (.Call (.Attribute a "partition" apos) [b] [] pos) (ePart f g) :=
  (pe_partition ha hb hs hbase hline).imp fun σ H Q ⟨am, e, S, rs, re, p⟩ =>
    ⟨am, e, S, rs, re, (Post.step p).imp fun x H1 ⟨am1, S1, d, _, g1, rs1, rv, p1⟩ => by
      cases d with
      | str s =>
        cases rv
        have p1 : Post X.K cl W σ (VR X.K) am1 H1 ((g e S1).bind fun c S => match c with
          | .str b => if splOk s b then .ok (.tpi [.str (Txt.partition s b).1, .str (Txt.partition s b).2.1, .str (Txt.partition s b).2.2]) S else .bad
          | _ => .bad) Q := p1
        refine ⟨⟨s, rfl⟩, am1, e, S1, rs1, re.mono g1, (Post.step p1).imp fun y H2 ⟨am2, S2, c, _, g2, rs2, rv2, p2⟩ => ?_⟩
        cases c with
        | str t =>
          cases rv2
          simp only at p2
          split at p2
          · rename_i hz
            exact ⟨s, t, rfl, rfl, hz.1, Nat.le_trans (Nat.le_add_right _ 2) hz.2, fun q hq => p2 am2 _ _ (Grow.upd hq) (rs2.upd hq) (VR.tpiNew rs2 (.cons (.str _) (.cons (.str _) (.cons (.str _) .nil))) hq)⟩
          · exact p2.elim
        | _ => exact p2.elim
      | _ => exact p1.elim⟩
end
end Pu
set_option Elab.async false
set_option linter.all false
set_option maxRecDepth 100000
set_option maxHeartbeats 1000000
namespace L2
open PySem PySem.Spec PyProof.Rows
section
variable {X : Cx}
def rRemD (K : PySem.W.Frag) : V → List V → Hp → VK → Prop := fun x xs H Q => ∃ (a : Addr) (vs : List V) (y : V) (d : PyData) (ds : List PyData) (j : Nat) (z : PyData), x = V.ref a ∧ xs = [y] ∧ H a = some (.lst vs) ∧ DpAll K H vs ds ∧ Dp K H y d ∧
  SeqAt.shaped (.list ds) = true ∧ SeqAt.shaped d = true ∧ ds[j]? = some z ∧ PyData.eqv z d = true ∧ (∀ (m : Nat) (z' : PyData), m < j → ds[m]? = some z' → PyData.eqv z' d = false) ∧ Q .non (upd H a (.lst (vs.eraseIdx j)))
theorem mt_removeD (hu : X.A.units + 65 < cLine) : MtR X "list.remove" (rRemD X.K) := by
  intro pins s σ H x xs v us Q I rx rxs h
  obtain ⟨a, vs, y, d, ds, j, z, rfl, rfl, hH, ha, hy, sl, sd, hz, hzj, hno, q⟩ := h
  cases rx
  cases rxs with
  | cons ry rt =>
    rename_i uy ut
    cases rt
    obtain ⟨bs, r1⟩ := Dp.reads I d y uy hy ry
    have hxs : PyData.canLayAll0 ds = true := SeqAt.canLay_of_shaped sl
    have hroom : X.A.units + 1 + min (PyData.depthAll ds) d.depth < cLine := room_in_shaped sd hu
    obtain ⟨zl, its, n, rv, hl, ho⟩ := I.lstM hH
    obtain ⟨as, h4⟩ := Dp.readsAll I ds _ its ha rv
    have hn : its.length = ds.length := SeqAt.ReadsAll.length ds its as h4
    have hmap : its.map (SeqAt.readOf s.heap) = ds := SeqAt.readsAll_map ds its as hxs h4
    have hsl := sizeLine_eq
    obtain ⟨hjd, _⟩ := List.getElem?_eq_some_iff.mp hz
    have hjl : j < its.length := by omega
    have hj : j < its.toArray.size := by simpa using hjl
    have at_ : ∀ (m : Nat) (hm : m < its.toArray.size) (z' : PyData), ds[m]? = some z' → SeqAt.readOf s.heap its.toArray[m] = z' := by
      intro m hm z' hz'
      have hml : m < its.length := by simpa using hm
      rw [← hmap, List.getElem?_map, List.getElem?_eq_getElem hml] at hz'
      have e1 : SeqAt.readOf s.heap its[m] = z' := Option.some.inj (show some (SeqAt.readOf s.heap its[m]) = some z' from hz')
      simpa using e1
    refine call_meets PySem.F.slot_list_remove ⟨_, ho, rfl⟩ PySem.F.entry_list_remove (PySem.F.args_list_remove_2 _ _)
      (SeqAt.list_removeAt a its.toArray n none _ uy (fun u => PyData.eqv (SeqAt.readOf s.heap u) d) j hj ?_ ?_ (by rw [List.size_toArray]; omega)) ⟨ho, SeqAt.items_eqAt (vs := its.toArray) (show ReadsAll s.heap its.toArray.toList ds as from h4) r1 hxs (SeqAt.canLay_of_shaped sd) hroom, ?_⟩
    · show PyData.eqv (SeqAt.readOf s.heap its.toArray[j]) d = true
      rw [at_ j hj z hz]
      exact hzj
    · intro m hm hmj
      have hmd : m < ds.length := by omega
      have hz' : ds[m]? = some ds[m] := List.getElem?_eq_getElem hmd
      show PyData.eqv (SeqAt.readOf s.heap its.toArray[m]) d = false
      rw [at_ m hm _ hz']
      exact hno m _ hmj hz'
    · have rr := rv.eraseIdx j
      refine ⟨.non, _, I.lset (its' := its.eraseIdx j) (t' := s.toks) hH ho ?_ rr ?_, rfl, q⟩
      · show its.toArray.eraseIdxIfInBounds j = (its.eraseIdx j).toArray
        rw [List.eraseIdxIfInBounds_toArray]
      · have z2 := len_erase vs j
        omega
end
end L2
namespace Pu
open PySem PySem.Spec PyProof.Rows L2
def remD (o : D) (ds : List D) (S : Sto) : Res D := match o with
  | .ref k => match ds with
    | [d] => match S[k]? with
      | some (.lst xs) => if SeqAt.shaped d.py = true ∧ SeqAt.shaped (.list (pys xs)) = true then match fstI d.py (pys xs) with
        | some j => .ok .non (S.set k (.lst (xs.eraseIdx j)))
        | none => .bad
        else .bad
      | _ => .bad
    | _ => .bad
  | _ => .bad
section
variable {cl : Str → Addr} {W : WX} {X : Cx} {a o : Expr} {f g : Ev D} {pos apos cpos : Pos} {K : PySem.W.Frag}
theorem VRs.eraseIdx {am : AM} {H : Hp} : ∀ {ds : List D} {vs : List V} (j : Nat), VRs K am H ds vs → VRs K am H (ds.eraseIdx j) (vs.eraseIdx j)
  | _, _, _, .nil => by simpa using VRs.nil
  | _, _, 0, .cons _ t => by simpa using t
  | _, _, j + 1, .cons h t => by simpa using VRs.cons h (VRs.eraseIdx j t)
theorem ok_remD : OkM X.K cl "list" (rRemD X.K) remD := by
  intro W σ am S H o ds x vs Q rs h1 h2 p
  cases h1 with
  | @ref k l hk =>
    match ds, vs, h2, p with
    | [d], [v], .cons r1 .nil, p =>
      simp only [remD] at p
      cases q : S[k]? with
      | none => rw [q] at p; exact p.elim
      | some ob =>
        rw [q] at p
        cases ob with
        | lst xs =>
          simp only at p
          by_cases hc : SeqAt.shaped d.py = true ∧ SeqAt.shaped (.list (pys xs)) = true
          · rw [if_pos hc] at p
            cases q3 : fstI d.py (pys xs) with
            | none => rw [q3] at p; exact p.elim
            | some j =>
              rw [q3] at p
              obtain ⟨⟨z, g1, g2⟩, g3⟩ := fstI_ok q3
              have hd := r1.dp (SeqAt.canLay_of_shaped hc.1)
              obtain ⟨us, k1, k2⟩ := rs.ob k _ l q hk
              have hl := k2.dp (by simpa [PyData.canLay0] using SeqAt.canLay_of_shaped hc.2)
              have hm : l ∈ am.ad := List.mem_of_getElem? hk
              exact ⟨l, us, v, d.py, pys xs, j, z, rfl, rfl, k1, hl, hd, hc.2, hc.1, g1, g2, g3, p am _ _ (Grow.put hm) (rs.put hk ⟨_, upd_same, (k2.eraseIdx j).mono (Grow.put hm)⟩) .non⟩
          · rw [if_neg hc] at p
            exact p.elim
        | dct _ => exact p.elim
        | ins _ _ => exact p.elim
    | [], _, _, p => exact p.elim
    | _ :: _ :: _, _, _, p => exact p.elim
  | _ => exact p.elim
theorem qe_removeD {k : Nat} (hr : Room k X.A) (ho : QE cl W X o g) (ha : QE cl W X a f) (h0 : starEach [a] X.env = (false, eval a X.env) :: starEach [] X.env := by rfl)
    (hbase : attributeBase o "remove" X.env (eval o X.env) = eval o X.env := by rfl)
    (hfew : ((backTo cpos (starEach [a] X.env)).all (fun x => !x.1) && (backToKw cpos (keywordEach [] X.env)).all (fun x => x.1.isSome)
      && decide ([a].length + ([] : List Keyword).length + (if ([] : List Keyword).isEmpty then 0 else 1) < 30)) = true := by rfl)
    (hline : (apos.endLine == cpos.line) = true := by rfl) (hplain : (backTo cpos (starEach [] X.env)).any (·.1) = false := by rfl) :
    QE cl W X (.Call (.Attribute o "remove" apos) [a] [] cpos) (eM "list" remD g [f]) := qe_bm PySem.F.plainAttrs_list PySem.F.slot_list_remove PySem.F.type_list_remove (mt_removeD (units65 hr)) ok_remD ho (qa_cons ha qa_nil h0) hbase hfew hline h0 hplain
end
end Pu
set_option Elab.async false
set_option linter.all false
set_option maxRecDepth 100000
namespace Pu
open PySem PySem.Spec PyProof.Rows L2
theorem forR1i {dead : List Nat} {tg : Tg} {f : Ev D} {a : Stm} {e : En} {S : Sto} {i : Int} (hf : f e S = .ok (.int i) S) (h0 : -1000000 < i) (h : i < 1048576) : sFor dead tg (iR1 f) a e S = forD dead tg (.tmp (rngD 0 i)) a (rngD 0 i) e S := by
  rw [ap_For, ap_iR1, hf, Res.bind_ok, srcR1_ap, if_pos (by unfold Rg62; omega), Res.stm_ok]
  rfl
theorem forR2i {dead : List Nat} {tg : Tg} {f g : Ev D} {a : Stm} {e : En} {S : Sto} {i j : Int} (hf : f e S = .ok (.int i) S) (hg : g e S = .ok (.int j) S) (h0 : -1000000 < i) (h : i < 1048576) (h2 : -1000000 < j) (h3 : j < 1048576) : sFor dead tg (iR2 f g) a e S = forD dead tg (.tmp (rngD i j)) a (rngD i j) e S := by
  rw [ap_For, ap_iR2, hf, Res.bind_ok, hg, Res.bind_ok, srcR2_ap, if_pos (by unfold Rg62; omega), Res.stm_ok]
  rfl
theorem nLcR2 {vs : List Nat} {tg : Tg} {f g u : Ev D} {e : En} {S : Sto} {ys : List D} {t : Ev Bool} {i j : Int} (hf : f e S = .ok (.int i) S) (hg : g e S = .ok (.int j) S) (h0 : -1000000 < i) (h : i < 1048576) (h2 : -1000000 < j) (h3 : j < 1048576) (hl : (j - i).toNat < 1048576) (q : lcD tg (.tmp (rngD i j)) t u (wipeE e vs) (rngD i j) S = .ok ys S) : nLc vs tg (iR2 f g) t u e S = .ok (.lst ys) S := by
  rw [ap_Lc, ap_iR2, hf, Res.bind_ok, hg, Res.bind_ok, srcR2_ap, if_pos (by unfold Rg62; omega), Res.bind_ok]
  simp only [Src.items_tmp]
  rw [if_pos (Nat.le_of_lt (sz (by simpa using hl))), q, Res.bind_ok]
theorem while_end {dead : List Nat} {t : Ev Bool} {body : Stm} {e : En} {S : Sto} (h : t e S = .ok false S) : whileN dead t body 1 e S = .next e S := by
  unfold whileN
  rw [h]
end Pu
set_option Elab.async false
set_option linter.all false
set_option maxRecDepth 100000
set_option maxHeartbeats 4000000
namespace Lw
open PySem PySem.Spec PyProof.Rows L2 Pu
def topS (i : Nat) : Stmt := PySem.Challenge.pw_walkframe_k48_offices_opened.main.body.getD i (.Pass ⟨0, 0, 0, 0⟩)
structure Bt (K : PySem.W.Frag) (mg : Str → Option Value) : Prop where
  ValueError : mg "ValueError" = none
  all : mg "all" = none
  bool : mg "bool" = none
  enumerate : mg "enumerate" = none
  int : mg "int" = none
  isinstance : mg "isinstance" = none
  len : mg "len" = none
  list : mg "list" = none
  max : mg "max" = none
  min : mg "min" = none
  range : mg "range" = none
  sum : mg "sum" = none
  tuple : mg "tuple" = none
  g_MOST_NUMBER : ∃ t, mg "MOST_NUMBER" = some (.int 596216567187872108348956733961803993280 t)
  g_STEPS : GT K mg "STEPS" [1, 2, (-1), (-2)]
  g_STREETS : ∃ t, mg "STREETS" = some (.int 31 t)
structure Er (K : PySem.W.Frag) (mg : Str → Option Value) (cl : Str → Addr) : Prop where
  c_LetterError : ClsE K mg cl "LetterError"
  c_NoBook : ClsE K mg cl "NoBook"
  c_NoCarrier : ClsE K mg cl "NoCarrier"
  c_NoStop : ClsE K mg cl "NoStop"
  g_LetterError : mg "LetterError" = some (.ref (cl "LetterError"))
  g_NoBook : mg "NoBook" = some (.ref (cl "NoBook"))
  g_NoCarrier : mg "NoCarrier" = some (.ref (cl "NoCarrier"))
  g_NoOrder : mg "NoOrder" = some (.ref (cl "NoOrder"))
  g_NoPlan : mg "NoPlan" = some (.ref (cl "NoPlan"))
  g_NoStop : mg "NoStop" = some (.ref (cl "NoStop"))
  i_NoBook_NoBook : PySem.W.kitOne K (.ref (cl "NoBook")) (.ref (cl "NoBook")) = some true
  i_NoBook_NoOrder : PySem.W.kitOne K (.ref (cl "NoBook")) (.ref (cl "NoOrder")) = some false
  i_NoBook_NoPlan : PySem.W.kitOne K (.ref (cl "NoBook")) (.ref (cl "NoPlan")) = some false
  i_NoBook_NoStop : PySem.W.kitOne K (.ref (cl "NoBook")) (.ref (cl "NoStop")) = some false
  s_NoBook_LetterError : PySem.W.subIn K (.ref (cl "NoBook")) (.ref (cl "LetterError")) = some true
  v_NoBook : PySem.W.kitOne K (.ref (cl "NoBook")) (.type "ValueError") = some true
  x_NoBook : ExcC K (cl "NoBook")
structure Kl (K : PySem.W.Frag) (mg : Str → Option Value) (cl : Str → Addr) : Prop where
  c_Office : Cls K (cl "Office")
  m_Office : ClsM K mg cl "Office"
  n_Office_in_force : NoAttr K (cl "Office") "in_force"
  n_Office_kept : NoAttr K (cl "Office") "kept"
  n_Office_left : NoAttr K (cl "Office") "left"
  n_Office_loose : NoAttr K (cl "Office") "loose"
  n_Office_numbered : NoAttr K (cl "Office") "numbered"
  n_Office_sorted_on : NoAttr K (cl "Office") "sorted_on"
  n_Office_strays : NoAttr K (cl "Office") "strays"
  n_Office_today : NoAttr K (cl "Office") "today"
  n_Office_unread : NoAttr K (cl "Office") "unread"
  n_Office_walks : NoAttr K (cl "Office") "walks"
section
variable {P : Program} {w : World} {K : PySem.W.Frag} {mg : Str → Option Value} {base : Heap} {cl : Str → Addr}
abbrev sis_whole : Stmt := topS 12
theorem cis_whole : FnScope ["some"] ["some"] (defScope sis_whole) := ⟨rfl, rfl, rfl, by decide +kernel, rfl, by decide +kernel, by decide +kernel⟩
noncomputable def bis_whole : Stm := (sRet (eAndD (e1 (isD "int") (eVar 0)) (eNotD (e1 (isD "bool") (eVar 0)))))
noncomputable def Fis_whole : List D → Sto → Res D := runD .frz 1 bis_whole
theorem kis_whole (T : Bt K mg) (Ee : Er K mg cl) (Kk : Kl K mg cl) (I : DefIn K mg "is_whole" sis_whole ["some"])  : DefOk P w K mg base cl "is_whole" 1 ["some"] Fis_whole := by
  refine def_ok (k := 0) I cis_whole fun f cdv A outer s H E hr => ?_
  have nd := cis_whole.nd
  have tk : L2N.Takes (cxOf (L2N.CX P w) P w K mg base ["some"] "is_whole" (defScope sis_whole) f cdv A outer s H E) (fun c d _ H => E c d H)   := L2N.takes_of rfl rfl rfl rfl
  have hp : PassesOwn (model P w) (cxOf (L2N.CX P w) P w K mg base ["some"] "is_whole" (defScope sis_whole) f cdv A outer s H E).A (cxOf (L2N.CX P w) P w K mg base ["some"] "is_whole" (defScope sis_whole) f cdv A outer s H E).env (cxOf (L2N.CX P w) P w K mg base ["some"] "is_whole" (defScope sis_whole) f cdv A outer s H E).xe := passes_of rfl
  exact (qb_one (qs_ret (qe_and (qe_is (T' := "int") (by decide) (by rfl) T.isinstance (by rfl) T.int (by decide +kernel) (qv 0)) (qe_one (qe_not (qe_is (T' := "bool") (by decide) (by rfl) T.isinstance (by rfl) T.bool (by decide +kernel) (qv 0)))))))

abbrev sis_street : Stmt := topS 13
theorem cis_street : FnScope ["some"] ["some"] (defScope sis_street) := ⟨rfl, rfl, rfl, by decide +kernel, rfl, by decide +kernel, by decide +kernel⟩
noncomputable def bis_street : Stm := (sRet (eAndD (eFn Fis_whole [(eVar 0)]) (eCh leD ltD (eC (.int 0)) (eVar 0) (eC (.int 31)))))
noncomputable def Fis_street : List D → Sto → Res D := runD .frz 1 bis_street
theorem kis_street (T : Bt K mg) (Ee : Er K mg cl) (Kk : Kl K mg cl) (I : DefIn K mg "is_street" sis_street ["some"]) (Gis_whole : DefOk P w K mg base cl "is_whole" 1 ["some"] Fis_whole) : DefOk P w K mg base cl "is_street" 2 ["some"] Fis_street := by
  refine def_ok (k := 1) I cis_street fun f cdv A outer s H E hr => ?_
  have nd := cis_street.nd
  have tk : L2N.Takes (cxOf (L2N.CX P w) P w K mg base ["some"] "is_street" (defScope sis_street) f cdv A outer s H E) (fun c d _ H => E c d H)   := L2N.takes_of rfl rfl rfl rfl
  have hp : PassesOwn (model P w) (cxOf (L2N.CX P w) P w K mg base ["some"] "is_street" (defScope sis_street) f cdv A outer s H E).A (cxOf (L2N.CX P w) P w K mg base ["some"] "is_street" (defScope sis_street) f cdv A outer s H E).env (cxOf (L2N.CX P w) P w K mg base ["some"] "is_street" (defScope sis_street) f cdv A outer s H E).xe := passes_of rfl
  exact (qb_one (qs_ret (qe_and (qe_fn (Gis_whole.mono (by decide)) hr (by rfl) tk (qa_cons (qv 0) qa_nil)) (qe_one (qe_lelt qe_int (qv 0) (qe_gInt (by rfl) T.g_STREETS))))))

abbrev sis_house : Stmt := topS 14
theorem cis_house : FnScope ["some"] ["some"] (defScope sis_house) := ⟨rfl, rfl, rfl, by decide +kernel, rfl, by decide +kernel, by decide +kernel⟩
noncomputable def bis_house : Stm := (sRet (eAndD (eFn Fis_whole [(eVar 0)]) (eCh leD leD (eC (.int 1)) (eVar 0) (eC (.int 596216567187872108348956733961803993280)))))
noncomputable def Fis_house : List D → Sto → Res D := runD .frz 1 bis_house
theorem kis_house (T : Bt K mg) (Ee : Er K mg cl) (Kk : Kl K mg cl) (I : DefIn K mg "is_house" sis_house ["some"]) (Gis_whole : DefOk P w K mg base cl "is_whole" 1 ["some"] Fis_whole) : DefOk P w K mg base cl "is_house" 2 ["some"] Fis_house := by
  refine def_ok (k := 1) I cis_house fun f cdv A outer s H E hr => ?_
  have nd := cis_house.nd
  have tk : L2N.Takes (cxOf (L2N.CX P w) P w K mg base ["some"] "is_house" (defScope sis_house) f cdv A outer s H E) (fun c d _ H => E c d H)   := L2N.takes_of rfl rfl rfl rfl
  have hp : PassesOwn (model P w) (cxOf (L2N.CX P w) P w K mg base ["some"] "is_house" (defScope sis_house) f cdv A outer s H E).A (cxOf (L2N.CX P w) P w K mg base ["some"] "is_house" (defScope sis_house) f cdv A outer s H E).env (cxOf (L2N.CX P w) P w K mg base ["some"] "is_house" (defScope sis_house) f cdv A outer s H E).xe := passes_of rfl
  exact (qb_one (qs_ret (qe_and (qe_fn (Gis_whole.mono (by decide)) hr (by rfl) tk (qa_cons (qv 0) qa_nil)) (qe_one (qe_lele qe_int (qv 0) (qe_gInt (by rfl) T.g_MOST_NUMBER))))))

abbrev sis_reached : Stmt := topS 16
theorem cis_reached : FnScope ["first", "last", "step"] ["first", "last", "step"] (defScope sis_reached) := ⟨rfl, rfl, rfl, by decide +kernel, rfl, by decide +kernel, by decide +kernel⟩
noncomputable def bis_reached : Stm := (sRet (eAndD (e2 (eqD false) (e2 modD (e2 subD (eVar 1) (eVar 0)) (eVar 2)) (eC (.int 0))) (e2 geD (e2 fdivD (e2 subD (eVar 1) (eVar 0)) (eVar 2)) (eC (.int 0)))))
noncomputable def Fis_reached : List D → Sto → Res D := runD .frz 3 bis_reached
theorem kis_reached (T : Bt K mg) (Ee : Er K mg cl) (Kk : Kl K mg cl) (I : DefIn K mg "is_reached" sis_reached ["first", "last", "step"])  : DefOk P w K mg base cl "is_reached" 1 ["first", "last", "step"] Fis_reached := by
  refine def_ok (k := 0) I cis_reached fun f cdv A outer s H E hr => ?_
  have nd := cis_reached.nd
  have tk : L2N.Takes (cxOf (L2N.CX P w) P w K mg base ["first", "last", "step"] "is_reached" (defScope sis_reached) f cdv A outer s H E) (fun c d _ H => E c d H)   := L2N.takes_of rfl rfl rfl rfl
  have hp : PassesOwn (model P w) (cxOf (L2N.CX P w) P w K mg base ["first", "last", "step"] "is_reached" (defScope sis_reached) f cdv A outer s H E).A (cxOf (L2N.CX P w) P w K mg base ["first", "last", "step"] "is_reached" (defScope sis_reached) f cdv A outer s H E).env (cxOf (L2N.CX P w) P w K mg base ["first", "last", "step"] "is_reached" (defScope sis_reached) f cdv A outer s H E).xe := passes_of rfl
  exact (qb_one (qs_ret (qe_and (qe_eq hr (qe_mod (qe_sub (qv 1) (qv 0)) (qv 2)) qe_int) (qe_one (qe_ge (qe_fdiv (qe_sub (qv 1) (qv 0)) (qv 2)) qe_int)))))

abbrev sis_run : Stmt := topS 17
theorem cis_run : FnScope ["some"] ["some"] (defScope sis_run) := ⟨rfl, rfl, rfl, by decide +kernel, rfl, by decide +kernel, by decide +kernel⟩
noncomputable def bis_run : Stm := (sSeq (sIf (tOrD (tNotD (eTr (e1 (isD "tuple") (eVar 0)))) (tOrD (eTB (e2 (eqD true) (eCall lenD [(eVar 0)]) (eC (.int 4)))) (tNotD (eTr (eFn Fis_street [(e2 ixD (eVar 0) (eC (.int 0)))]))))) (sRet (eC (.bl false))) sNext)
    (sSeq (sIf (tOrD (tNotD (eTr (eFn Fis_house [(e2 ixD (eVar 0) (eC (.int 1)))]))) (tOrD (tNotD (eTr (eFn Fis_house [(e2 ixD (eVar 0) (eC (.int 2)))]))) (tOrD (tNotD (eTr (eFn Fis_whole [(e2 ixD (eVar 0) (eC (.int 3)))]))) (eTB (e2 (inD true) (e2 ixD (eVar 0) (eC (.int 3))) (eC (.tup [.int 1, .int 2, .int (-1), .int (-2)]))))))) (sRet (eC (.bl false))) sNext)
    (sRet (eFn Fis_reached [(e2 ixD (eVar 0) (eC (.int 1))), (e2 ixD (eVar 0) (eC (.int 2))), (e2 ixD (eVar 0) (eC (.int 3)))]))))
noncomputable def Fis_run : List D → Sto → Res D := runD .frz 1 bis_run
theorem kis_run (T : Bt K mg) (Ee : Er K mg cl) (Kk : Kl K mg cl) (I : DefIn K mg "is_run" sis_run ["some"]) (Gis_reached : DefOk P w K mg base cl "is_reached" 1 ["first", "last", "step"] Fis_reached) (Gis_street : DefOk P w K mg base cl "is_street" 2 ["some"] Fis_street) (Gis_house : DefOk P w K mg base cl "is_house" 2 ["some"] Fis_house) (Gis_whole : DefOk P w K mg base cl "is_whole" 1 ["some"] Fis_whole) : DefOk P w K mg base cl "is_run" 3 ["some"] Fis_run := by
  refine def_ok (k := 2) I cis_run fun f cdv A outer s H E hr => ?_
  have nd := cis_run.nd
  have tk : L2N.Takes (cxOf (L2N.CX P w) P w K mg base ["some"] "is_run" (defScope sis_run) f cdv A outer s H E) (fun c d _ H => E c d H)   := L2N.takes_of rfl rfl rfl rfl
  have hp : PassesOwn (model P w) (cxOf (L2N.CX P w) P w K mg base ["some"] "is_run" (defScope sis_run) f cdv A outer s H E).A (cxOf (L2N.CX P w) P w K mg base ["some"] "is_run" (defScope sis_run) f cdv A outer s H E).env (cxOf (L2N.CX P w) P w K mg base ["some"] "is_run" (defScope sis_run) f cdv A outer s H E).xe := passes_of rfl
  exact (qb_cons (qs_if (PW.pt (qw_or (qt_not (qt_val (qe_is (T' := "tuple") (by decide) (by rfl) T.isinstance (by rfl) T.tuple (by decide +kernel) (qv 0)))) (qw_or (qt_ne hr (qe_len (by rfl) T.len (qa_cons (qv 0) qa_nil)) qe_int) (qw_or1 (qt_not (qt_val (qe_fn (Gis_street.mono (by decide)) hr (by rfl) tk (qa_cons (qe_ix hr (qv 0) qe_int) qa_nil)))))))) (qb_one (qs_ret qe_bl)) qb_nil)
    (qb_cons (qs_if (PW.pt (qw_or (qt_not (qt_val (qe_fn (Gis_house.mono (by decide)) hr (by rfl) tk (qa_cons (qe_ix hr (qv 0) qe_int) qa_nil)))) (qw_or (qt_not (qt_val (qe_fn (Gis_house.mono (by decide)) hr (by rfl) tk (qa_cons (qe_ix hr (qv 0) qe_int) qa_nil)))) (qw_or (qt_not (qt_val (qe_fn (Gis_whole.mono (by decide)) hr (by rfl) tk (qa_cons (qe_ix hr (qv 0) qe_int) qa_nil)))) (qw_or1 (qt_notIn hr (qe_ix hr (qv 0) qe_int) (qe_gTup (ns := [1, 2, (-1), (-2)]) (by rfl) T.g_STEPS))))))) (qb_one (qs_ret qe_bl)) qb_nil)
    (qb_one (qs_ret (qe_fn (Gis_reached.mono (by decide)) hr (by rfl) tk (qa_cons (qe_ix hr (qv 0) qe_int) (qa_cons (qe_ix hr (qv 0) qe_int) (qa_cons (qe_ix hr (qv 0) qe_int) qa_nil))))))))

abbrev shouses : Stmt := topS 18
theorem chouses : FnScope ["run", "street", "first", "last", "step"] ["run"] (defScope shouses) := ⟨rfl, rfl, rfl, by decide +kernel, rfl, by decide +kernel, by decide +kernel⟩
noncomputable def bhouses : Stm := (sSeq (sAsg (.tp [(.nm 1), (.nm 2), (.nm 3), (.nm 4)]) (eVar 0))
    (sRet (e2 addD (e2 fdivD (e2 subD (eVar 3) (eVar 2)) (eVar 4)) (eC (.int 1)))))
noncomputable def Fhouses : List D → Sto → Res D := runD .frz 5 bhouses
theorem khouses (T : Bt K mg) (Ee : Er K mg cl) (Kk : Kl K mg cl) (I : DefIn K mg "houses" shouses ["run"])  : DefOk P w K mg base cl "houses" 1 ["run"] Fhouses := by
  refine def_ok (k := 0) I chouses fun f cdv A outer s H E hr => ?_
  have nd := chouses.nd
  have tk : L2N.Takes (cxOf (L2N.CX P w) P w K mg base ["run", "street", "first", "last", "step"] "houses" (defScope shouses) f cdv A outer s H E) (fun c d _ H => E c d H)   := L2N.takes_of rfl rfl rfl rfl
  have hp : PassesOwn (model P w) (cxOf (L2N.CX P w) P w K mg base ["run", "street", "first", "last", "step"] "houses" (defScope shouses) f cdv A outer s H E).A (cxOf (L2N.CX P w) P w K mg base ["run", "street", "first", "last", "step"] "houses" (defScope shouses) f cdv A outer s H E).env (cxOf (L2N.CX P w) P w K mg base ["run", "street", "first", "last", "step"] "houses" (defScope shouses) f cdv A outer s H E).xe := passes_of rfl
  exact (qb_cons (qs_asg (qv 0) (qg_tp rfl (qgs_cons (qg_nm nd rfl (by first | exact Or.inl rfl | exact Or.inr rfl)) (qgs_cons (qg_nm nd rfl (by first | exact Or.inl rfl | exact Or.inr rfl)) (qgs_cons (qg_nm nd rfl (by first | exact Or.inl rfl | exact Or.inr rfl)) (qgs_cons (qg_nm nd rfl (by first | exact Or.inl rfl | exact Or.inr rfl)) qgs_nil)))) rfl))
    (qb_one (qs_ret (qe_add (qe_fdiv (qe_sub (qv 3) (qv 2)) (qv 4)) qe_int))))

abbrev shouse_at : Stmt := topS 19
theorem chouse_at : FnScope ["run", "place"] ["run", "place"] (defScope shouse_at) := ⟨rfl, rfl, rfl, by decide +kernel, rfl, by decide +kernel, by decide +kernel⟩
noncomputable def bhouse_at : Stm := (sSeq (sIf (tNotD (eTB (eCh leD ltD (eC (.int 0)) (eVar 1) (eFn Fhouses [(eVar 0)])))) (sRaise "NoStop") sNext)
    (sRet (e2 addD (e2 ixD (eVar 0) (eC (.int 1))) (e2 mulD (eVar 1) (e2 ixD (eVar 0) (eC (.int 3)))))))
noncomputable def Fhouse_at : List D → Sto → Res D := runD .frz 2 bhouse_at
theorem khouse_at (T : Bt K mg) (Ee : Er K mg cl) (Kk : Kl K mg cl) (I : DefIn K mg "house_at" shouse_at ["run", "place"]) (Ghouses : DefOk P w K mg base cl "houses" 1 ["run"] Fhouses) : DefOk P w K mg base cl "house_at" 2 ["run", "place"] Fhouse_at := by
  refine def_ok (k := 1) I chouse_at fun f cdv A outer s H E hr => ?_
  have nd := chouse_at.nd
  have tk : L2N.Takes (cxOf (L2N.CX P w) P w K mg base ["run", "place"] "house_at" (defScope shouse_at) f cdv A outer s H E) (fun c d _ H => E c d H)   := L2N.takes_of rfl rfl rfl rfl
  have hp : PassesOwn (model P w) (cxOf (L2N.CX P w) P w K mg base ["run", "place"] "house_at" (defScope shouse_at) f cdv A outer s H E).A (cxOf (L2N.CX P w) P w K mg base ["run", "place"] "house_at" (defScope shouse_at) f cdv A outer s H E).env (cxOf (L2N.CX P w) P w K mg base ["run", "place"] "house_at" (defScope shouse_at) f cdv A outer s H E).xe := passes_of rfl
  exact (qb_cons (qs_if (qt_not (qt_lelt qe_int (qv 1) (qe_fn (Ghouses.mono (by decide)) hr (by rfl) tk (qa_cons (qv 0) qa_nil)))) (qb_one (qs_raise rfl tk Ee.c_NoStop (by rfl))) qb_nil)
    (qb_one (qs_ret (qe_add (qe_ix hr (qv 0) qe_int) (qe_mul (qv 1) (qe_ix hr (qv 0) qe_int))))))

abbrev splace_in : Stmt := topS 20
theorem cplace_in : FnScope ["run", "number", "street", "first", "last", "step", "place"] ["run", "number"] (defScope splace_in) := ⟨rfl, rfl, rfl, by decide +kernel, rfl, by decide +kernel, by decide +kernel⟩
noncomputable def bplace_in : Stm := (sSeq (sAsg (.tp [(.nm 2), (.nm 3), (.nm 4), (.nm 5)]) (eVar 0))
    (sSeq (sIf (eTB (e2 (eqD true) (e2 modD (e2 subD (eVar 1) (eVar 3)) (eVar 5)) (eC (.int 0)))) (sRet (eC .non)) sNext)
    (sSeq (sSet 6 (e2 fdivD (e2 subD (eVar 1) (eVar 3)) (eVar 5)))
    (sRet (eIf (eTB (eCh leD ltD (eC (.int 0)) (eVar 6) (eFn Fhouses [(eVar 0)]))) (eVar 6) (eC .non))))))
noncomputable def Fplace_in : List D → Sto → Res D := runD .frz 7 bplace_in
theorem kplace_in (T : Bt K mg) (Ee : Er K mg cl) (Kk : Kl K mg cl) (I : DefIn K mg "place_in" splace_in ["run", "number"]) (Ghouses : DefOk P w K mg base cl "houses" 1 ["run"] Fhouses) : DefOk P w K mg base cl "place_in" 2 ["run", "number"] Fplace_in := by
  refine def_ok (k := 1) I cplace_in fun f cdv A outer s H E hr => ?_
  have nd := cplace_in.nd
  have tk : L2N.Takes (cxOf (L2N.CX P w) P w K mg base ["run", "number", "street", "first", "last", "step", "place"] "place_in" (defScope splace_in) f cdv A outer s H E) (fun c d _ H => E c d H)   := L2N.takes_of rfl rfl rfl rfl
  have hp : PassesOwn (model P w) (cxOf (L2N.CX P w) P w K mg base ["run", "number", "street", "first", "last", "step", "place"] "place_in" (defScope splace_in) f cdv A outer s H E).A (cxOf (L2N.CX P w) P w K mg base ["run", "number", "street", "first", "last", "step", "place"] "place_in" (defScope splace_in) f cdv A outer s H E).env (cxOf (L2N.CX P w) P w K mg base ["run", "number", "street", "first", "last", "step", "place"] "place_in" (defScope splace_in) f cdv A outer s H E).xe := passes_of rfl
  exact (qb_cons (qs_asg (qv 0) (qg_tp rfl (qgs_cons (qg_nm nd rfl (by first | exact Or.inl rfl | exact Or.inr rfl)) (qgs_cons (qg_nm nd rfl (by first | exact Or.inl rfl | exact Or.inr rfl)) (qgs_cons (qg_nm nd rfl (by first | exact Or.inl rfl | exact Or.inr rfl)) (qgs_cons (qg_nm nd rfl (by first | exact Or.inl rfl | exact Or.inr rfl)) qgs_nil)))) rfl))
    (qb_cons (qs_if (qt_ne hr (qe_mod (qe_sub (qv 1) (qv 3)) (qv 5)) qe_int) (qb_one (qs_ret qe_non)) qb_nil)
    (qb_cons (qs_set nd rfl (by first | exact Or.inl rfl | exact Or.inr rfl) (qe_fdiv (qe_sub (qv 1) (qv 3)) (qv 5)))
    (qb_one (qs_ret (qe_if (qt_lelt qe_int (qv 6) (qe_fn (Ghouses.mono (by decide)) hr (by rfl) tk (qa_cons (qv 0) qa_nil))) (qv 6) qe_non))))))

abbrev sleast_shared : Stmt := topS 21
theorem cleast_shared : FnScope ["one", "other", "low", "number"] ["one", "other"] (defScope sleast_shared) := ⟨rfl, rfl, rfl, by decide +kernel, rfl, by decide +kernel, by decide +kernel⟩
noncomputable def bleast_shared_1 : Stm := (sIf (tAndD (eTB (e1 (isND true) (eFn Fplace_in [(eVar 0), (eVar 3)]))) (eTB (e1 (isND true) (eFn Fplace_in [(eVar 1), (eVar 3)])))) (sRet (eVar 3)) sNext)
noncomputable def bleast_shared : Stm := (sSeq (sIf (eTB (e2 (eqD true) (e2 ixD (eVar 0) (eC (.int 0))) (e2 ixD (eVar 1) (eC (.int 0))))) (sRet (eC .non)) sNext)
    (sSeq (sSet 2 (eCall (ii2D maxI) [(eCall (ii2D minI) [(e2 ixD (eVar 0) (eC (.int 1))), (e2 ixD (eVar 0) (eC (.int 2)))]), (eCall (ii2D minI) [(e2 ixD (eVar 1) (eC (.int 1))), (e2 ixD (eVar 1) (eC (.int 2)))])]))
    (sSeq (sFgt [3] (sFor [3] (.nm 3) (iS (eTup [(eVar 2), (e2 addD (eVar 2) (eC (.int 1)))])) bleast_shared_1))
    (sRet (eC .non)))))
noncomputable def Fleast_shared : List D → Sto → Res D := runD .frz 4 bleast_shared
theorem kleast_shared (T : Bt K mg) (Ee : Er K mg cl) (Kk : Kl K mg cl) (I : DefIn K mg "least_shared" sleast_shared ["one", "other"]) (Gplace_in : DefOk P w K mg base cl "place_in" 2 ["run", "number"] Fplace_in) : DefOk P w K mg base cl "least_shared" 3 ["one", "other"] Fleast_shared := by
  refine def_ok (k := 2) I cleast_shared fun f cdv A outer s H E hr => ?_
  have nd := cleast_shared.nd
  have tk : L2N.Takes (cxOf (L2N.CX P w) P w K mg base ["one", "other", "low", "number"] "least_shared" (defScope sleast_shared) f cdv A outer s H E) (fun c d _ H => E c d H)   := L2N.takes_of rfl rfl rfl rfl
  have hp : PassesOwn (model P w) (cxOf (L2N.CX P w) P w K mg base ["one", "other", "low", "number"] "least_shared" (defScope sleast_shared) f cdv A outer s H E).A (cxOf (L2N.CX P w) P w K mg base ["one", "other", "low", "number"] "least_shared" (defScope sleast_shared) f cdv A outer s H E).env (cxOf (L2N.CX P w) P w K mg base ["one", "other", "low", "number"] "least_shared" (defScope sleast_shared) f cdv A outer s H E).xe := passes_of rfl
  exact (qb_cons (qs_if (qt_ne hr (qe_ix hr (qv 0) qe_int) (qe_ix hr (qv 1) qe_int)) (qb_one (qs_ret qe_non)) qb_nil)
    (qb_cons (qs_set nd rfl (by first | exact Or.inl rfl | exact Or.inr rfl) (qe_max2 rfl (by rfl) T.max (qa_cons (qe_min2 rfl (by rfl) T.min (qa_cons (qe_ix hr (qv 0) qe_int) (qa_cons (qe_ix hr (qv 0) qe_int) qa_nil))) (qa_cons (qe_min2 rfl (by rfl) T.min (qa_cons (qe_ix hr (qv 1) qe_int) (qa_cons (qe_ix hr (qv 1) qe_int) qa_nil))) qa_nil))))
    (qb_cons (qs_fgt [3] (qs_for [3] hp rfl (qi_s (qe_tup (qa_cons (qv 2) (qa_cons (qe_add (qv 2) qe_int) qa_nil)))) (qg_nm nd rfl (by first | exact Or.inl rfl | exact Or.inr rfl))
    (qb_one (qs_if (PW.pt (qw_and (qt_notN (qe_fn (Gplace_in.mono (by decide)) hr (by rfl) tk (qa_cons (qv 0) (qa_cons (qv 3) qa_nil)))) (qw_and1 (qt_notN (qe_fn (Gplace_in.mono (by decide)) hr (by rfl) tk (qa_cons (qv 1) (qa_cons (qv 3) qa_nil))))))) (qb_one (qs_ret (qv 3))) qb_nil))))
    (qb_one (qs_ret qe_non)))))

abbrev sare_walks : Stmt := topS 23
theorem care_walks : FnScope ["some", "walk", "run"] ["some"] (defScope sare_walks) := ⟨rfl, rfl, rfl, by decide +kernel, rfl, by decide +kernel, by decide +kernel⟩
noncomputable def bare_walks : Stm := (sSeq (sIf (tOrD (tNotD (eTr (e1 (isD "tuple") (eVar 0)))) (tNotD (eTr (eCall (boolsD fun bs => bs.all id) [(eAno (nLc [1] (.nm 1) (iS (eVar 0)) tYesD (e1 (isD "tuple") (eVar 1))))])))) (sRet (eC (.bl false))) sNext)
    (sRet (eCall (boolsD fun bs => bs.all id) [(eAno (nLc [1] (.nm 1) (iS (eVar 0)) tYesD (eCall (boolsD fun bs => bs.all id) [(eAno (nLc [2] (.nm 2) (iS (eVar 1)) tYesD (eFn Fis_run [(eVar 2)])))])))])))
noncomputable def Fare_walks : List D → Sto → Res D := runD .frz 3 bare_walks
theorem kare_walks (T : Bt K mg) (Ee : Er K mg cl) (Kk : Kl K mg cl) (I : DefIn K mg "are_walks" sare_walks ["some"]) (Gis_run : DefOk P w K mg base cl "is_run" 3 ["some"] Fis_run) : DefOk P w K mg base cl "are_walks" 4 ["some"] Fare_walks := by
  refine def_ok (k := 3) I care_walks fun f cdv A outer s H E hr => ?_
  have nd := care_walks.nd
  have tk : L2N.Takes (cxOf (L2N.CX P w) P w K mg base ["some", "walk", "run"] "are_walks" (defScope sare_walks) f cdv A outer s H E) (fun c d _ H => E c d H)   := L2N.takes_of rfl rfl rfl rfl
  have hp : PassesOwn (model P w) (cxOf (L2N.CX P w) P w K mg base ["some", "walk", "run"] "are_walks" (defScope sare_walks) f cdv A outer s H E).A (cxOf (L2N.CX P w) P w K mg base ["some", "walk", "run"] "are_walks" (defScope sare_walks) f cdv A outer s H E).env (cxOf (L2N.CX P w) P w K mg base ["some", "walk", "run"] "are_walks" (defScope sare_walks) f cdv A outer s H E).xe := passes_of rfl
  exact (qb_cons (qs_if (PW.pt (qw_or (qt_not (qt_val (qe_is (T' := "tuple") (by decide) (by rfl) T.isinstance (by rfl) T.tuple (by decide +kernel) (qv 0)))) (qw_or1 (qt_not (qt_val (qe_all rfl (by rfl) T.all (qa_cons (qe_ano (qn_lc (own := [("walk", 1)]) rfl nd (qi_s (qv 0)) (blkOk_by (by rfl)) (by decide) (fun _ _ _ _ _ => (qg_nm nd rfl (by first | exact Or.inl rfl | exact Or.inr rfl))) (fun _ _ _ _ _ => qts_nil) (fun _ _ _ _ _ => (qe_is (T' := "tuple") (by decide) (by rfl) T.isinstance (by rfl) T.tuple (by decide +kernel) (qv 1))))) qa_nil))))))) (qb_one (qs_ret qe_bl)) qb_nil)
    (qb_one (qs_ret (qe_all rfl (by rfl) T.all (qa_cons (qe_ano (qn_lc (own := [("walk", 1)]) rfl nd (qi_s (qv 0)) (blkOk_by (by rfl)) (by decide) (fun _ _ _ _ _ => (qg_nm nd rfl (by first | exact Or.inl rfl | exact Or.inr rfl))) (fun _ _ _ _ _ => qts_nil) (fun _ _ _ _ _ => (qe_all rfl (by rfl) T.all (qa_cons (qe_ano (qn_lc (own := [("run", 2)]) rfl nd (qi_s (qv 1)) (blkOk_by (by rfl)) (by decide) (fun _ _ _ _ _ => (qg_nm nd rfl (by first | exact Or.inl rfl | exact Or.inr rfl))) (fun _ _ _ _ _ => qts_nil) (fun _ _ _ _ _ => (qe_fn (Gis_run.mono (by decide)) hr (by rfl) takesN (qa_cons (qv 2) qa_nil))))) qa_nil))))) qa_nil)))))

abbrev sall_runs : Stmt := topS 24
theorem call_runs : FnScope ["walks", "found", "carrier", "walk", "place", "run"] ["walks"] (defScope sall_runs) := ⟨rfl, rfl, rfl, by decide +kernel, rfl, by decide +kernel, by decide +kernel⟩
noncomputable def ball_runs_1 : Stm := (sExpr (eM "list" extD (eVar 1) [(eAno (nLc [4, 5] (.tp [(.nm 4), (.nm 5)]) (iEA (eVar 3)) tYesD (eTup [(eVar 2), (eVar 4), (eVar 5)])))]))
noncomputable def ball_runs : Stm := (sSeq (sSet 1 (eNew (nLst [])))
    (sSeq (sFgt [2, 3] (sFor [2, 3] (.tp [(.nm 2), (.nm 3)]) (iEA (eVar 0)) ball_runs_1))
    (sRet (eVar 1))))
noncomputable def Fall_runs : List D → Sto → Res D := runD .frz 6 ball_runs
theorem kall_runs (T : Bt K mg) (Ee : Er K mg cl) (Kk : Kl K mg cl) (I : DefIn K mg "all_runs" sall_runs ["walks"])  : DefOk P w K mg base cl "all_runs" 1 ["walks"] Fall_runs := by
  refine def_ok (k := 0) I call_runs fun f cdv A outer s H E hr => ?_
  have nd := call_runs.nd
  have tk : L2N.Takes (cxOf (L2N.CX P w) P w K mg base ["walks", "found", "carrier", "walk", "place", "run"] "all_runs" (defScope sall_runs) f cdv A outer s H E) (fun c d _ H => E c d H)   := L2N.takes_of rfl rfl rfl rfl
  have hp : PassesOwn (model P w) (cxOf (L2N.CX P w) P w K mg base ["walks", "found", "carrier", "walk", "place", "run"] "all_runs" (defScope sall_runs) f cdv A outer s H E).A (cxOf (L2N.CX P w) P w K mg base ["walks", "found", "carrier", "walk", "place", "run"] "all_runs" (defScope sall_runs) f cdv A outer s H E).env (cxOf (L2N.CX P w) P w K mg base ["walks", "found", "carrier", "walk", "place", "run"] "all_runs" (defScope sall_runs) f cdv A outer s H E).xe := passes_of rfl
  exact (qb_cons (qs_set nd rfl (by first | exact Or.inl rfl | exact Or.inr rfl) (qe_new (qn_lst qa_nil)))
    (qb_cons (qs_fgt [2, 3] (qs_for [2, 3] hp rfl (qi_enuA (by rfl) T.enumerate (qv 0)) (qg_tp rfl (qgs_cons (qg_nm nd rfl (by first | exact Or.inl rfl | exact Or.inr rfl)) (qgs_cons (qg_nm nd rfl (by first | exact Or.inl rfl | exact Or.inr rfl)) qgs_nil)) rfl)
    (qb_one (qs_expr (qe_extend (qv 1) (qe_ano (qn_lc (own := [("place", 4), ("run", 5)]) rfl nd (qi_enuA (by rfl) T.enumerate (qv 3)) (blkOk_by (by rfl)) (by decide) (fun _ _ _ _ _ => (qg_tp rfl (qgs_cons (qg_nm nd rfl (by first | exact Or.inl rfl | exact Or.inr rfl)) (qgs_cons (qg_nm nd rfl (by first | exact Or.inl rfl | exact Or.inr rfl)) qgs_nil)) rfl)) (fun _ _ _ _ _ => qts_nil) (fun _ _ _ _ _ => (qe_tup (qa_cons (qv 2) (qa_cons (qv 4) (qa_cons (qv 5) qa_nil))))))))))))
    (qb_one (qs_ret (qv 1)))))

abbrev smeeting : Stmt := topS 25
theorem cmeeting : FnScope ["walks", "runs", "place", "carrier", "spot", "run", "other", "far", "second", "number"] ["walks"] (defScope smeeting) := ⟨rfl, rfl, rfl, by decide +kernel, rfl, by decide +kernel, by decide +kernel⟩
noncomputable def bmeeting_1 : Stm := (sSeq (sSet 9 (eFn Fleast_shared [(eVar 5), (eVar 8)]))
    (sIf (eTB (e1 (isND true) (eVar 9))) (sRet (eTup [(eVar 3), (eVar 4), (eVar 6), (eVar 7), (eVar 9)])) sNext))
noncomputable def bmeeting_2 : Stm := (sFgt [6, 7, 8, 9] (sFor [6, 7, 8, 9] (.tp [(.nm 6), (.nm 7), (.nm 8)]) (iS (eSl (eVar 1) (pE (e2 addD (eVar 2) (eC (.int 1)))) pN)) bmeeting_1))
noncomputable def bmeeting : Stm := (sSeq (sSet 1 (eFn Fall_runs [(eVar 0)]))
    (sSeq (sFgt [2, 3, 4, 5, 6, 7, 8, 9] (sFor [2, 3, 4, 5, 6, 7, 8, 9] (.tp [(.nm 2), (.tp [(.nm 3), (.nm 4), (.nm 5)])]) (iEA (eVar 1)) bmeeting_2))
    (sRet (eC .non))))
noncomputable def Fmeeting : List D → Sto → Res D := runD .frz 10 bmeeting
theorem kmeeting (T : Bt K mg) (Ee : Er K mg cl) (Kk : Kl K mg cl) (I : DefIn K mg "meeting" smeeting ["walks"]) (Gall_runs : DefOk P w K mg base cl "all_runs" 1 ["walks"] Fall_runs) (Gleast_shared : DefOk P w K mg base cl "least_shared" 3 ["one", "other"] Fleast_shared) : DefOk P w K mg base cl "meeting" 4 ["walks"] Fmeeting := by
  refine def_ok (k := 3) I cmeeting fun f cdv A outer s H E hr => ?_
  have nd := cmeeting.nd
  have tk : L2N.Takes (cxOf (L2N.CX P w) P w K mg base ["walks", "runs", "place", "carrier", "spot", "run", "other", "far", "second", "number"] "meeting" (defScope smeeting) f cdv A outer s H E) (fun c d _ H => E c d H)   := L2N.takes_of rfl rfl rfl rfl
  have hp : PassesOwn (model P w) (cxOf (L2N.CX P w) P w K mg base ["walks", "runs", "place", "carrier", "spot", "run", "other", "far", "second", "number"] "meeting" (defScope smeeting) f cdv A outer s H E).A (cxOf (L2N.CX P w) P w K mg base ["walks", "runs", "place", "carrier", "spot", "run", "other", "far", "second", "number"] "meeting" (defScope smeeting) f cdv A outer s H E).env (cxOf (L2N.CX P w) P w K mg base ["walks", "runs", "place", "carrier", "spot", "run", "other", "far", "second", "number"] "meeting" (defScope smeeting) f cdv A outer s H E).xe := passes_of rfl
  exact (qb_cons (qs_set nd rfl (by first | exact Or.inl rfl | exact Or.inr rfl) (qe_fn (Gall_runs.mono (by decide)) hr (by rfl) tk (qa_cons (qv 0) qa_nil)))
    (qb_cons (qs_fgt [2, 3, 4, 5, 6, 7, 8, 9] (qs_for [2, 3, 4, 5, 6, 7, 8, 9] hp rfl (qi_enuA (by rfl) T.enumerate (qv 1)) (qg_tp rfl (qgs_cons (qg_nm nd rfl (by first | exact Or.inl rfl | exact Or.inr rfl)) (qgs_cons (qg_tp rfl (qgs_cons (qg_nm nd rfl (by first | exact Or.inl rfl | exact Or.inr rfl)) (qgs_cons (qg_nm nd rfl (by first | exact Or.inl rfl | exact Or.inr rfl)) (qgs_cons (qg_nm nd rfl (by first | exact Or.inl rfl | exact Or.inr rfl)) qgs_nil))) rfl) qgs_nil)) rfl)
    (qb_one (qs_fgt [6, 7, 8, 9] (qs_for [6, 7, 8, 9] hp rfl (qi_s (qe_sl (qv 1) (qp_e (qe_add (qv 2) qe_int)) qp_n)) (qg_tp rfl (qgs_cons (qg_nm nd rfl (by first | exact Or.inl rfl | exact Or.inr rfl)) (qgs_cons (qg_nm nd rfl (by first | exact Or.inl rfl | exact Or.inr rfl)) (qgs_cons (qg_nm nd rfl (by first | exact Or.inl rfl | exact Or.inr rfl)) qgs_nil))) rfl)
    (qb_cons (qs_set nd rfl (by first | exact Or.inl rfl | exact Or.inr rfl) (qe_fn (Gleast_shared.mono (by decide)) hr (by rfl) tk (qa_cons (qv 5) (qa_cons (qv 8) qa_nil))))
    (qb_one (qs_if (qt_notN (qv 9)) (qb_one (qs_ret (qe_tup (qa_cons (qv 3) (qa_cons (qv 4) (qa_cons (qv 6) (qa_cons (qv 7) (qa_cons (qv 9) qa_nil)))))))) qb_nil))))))))
    (qb_one (qs_ret qe_non))))

abbrev sis_book : Stmt := topS 26
theorem cis_book : FnScope ["some"] ["some"] (defScope sis_book) := ⟨rfl, rfl, rfl, by decide +kernel, rfl, by decide +kernel, by decide +kernel⟩
noncomputable def bis_book : Stm := (sRet (eAndD (eFn Fare_walks [(eVar 0)]) (e1 (isND false) (eFn Fmeeting [(eVar 0)]))))
noncomputable def Fis_book : List D → Sto → Res D := runD .frz 1 bis_book
theorem kis_book (T : Bt K mg) (Ee : Er K mg cl) (Kk : Kl K mg cl) (I : DefIn K mg "is_book" sis_book ["some"]) (Gare_walks : DefOk P w K mg base cl "are_walks" 4 ["some"] Fare_walks) (Gmeeting : DefOk P w K mg base cl "meeting" 4 ["walks"] Fmeeting) : DefOk P w K mg base cl "is_book" 5 ["some"] Fis_book := by
  refine def_ok (k := 4) I cis_book fun f cdv A outer s H E hr => ?_
  have nd := cis_book.nd
  have tk : L2N.Takes (cxOf (L2N.CX P w) P w K mg base ["some"] "is_book" (defScope sis_book) f cdv A outer s H E) (fun c d _ H => E c d H)   := L2N.takes_of rfl rfl rfl rfl
  have hp : PassesOwn (model P w) (cxOf (L2N.CX P w) P w K mg base ["some"] "is_book" (defScope sis_book) f cdv A outer s H E).A (cxOf (L2N.CX P w) P w K mg base ["some"] "is_book" (defScope sis_book) f cdv A outer s H E).env (cxOf (L2N.CX P w) P w K mg base ["some"] "is_book" (defScope sis_book) f cdv A outer s H E).xe := passes_of rfl
  exact (qb_one (qs_ret (qe_and (qe_fn (Gare_walks.mono (by decide)) hr (by rfl) tk (qa_cons (qv 0) qa_nil)) (qe_one (qe_isN (qe_fn (Gmeeting.mono (by decide)) hr (by rfl) tk (qa_cons (qv 0) qa_nil)))))))

abbrev saddress_of : Stmt := topS 27
theorem caddress_of : FnScope ["book", "rank", "carrier", "spot", "run"] ["book", "rank"] (defScope saddress_of) := ⟨rfl, rfl, rfl, by decide +kernel, rfl, by decide +kernel, by decide +kernel⟩
noncomputable def baddress_of_1 : Stm := (sSeq (sIf (eTB (e2 ltD (eVar 1) (eFn Fhouses [(eVar 4)]))) (sRet (eTup [(e2 ixD (eVar 4) (eC (.int 0))), (eFn Fhouse_at [(eVar 4), (eVar 1)])])) sNext)
    (sAug subD 1 (eFn Fhouses [(eVar 4)])))
noncomputable def baddress_of : Stm := (sSeq (sFgt [1, 2, 3, 4] (sIf (eTB (e2 geD (eVar 1) (eC (.int 0)))) (sFgt [1, 2, 3, 4] (sFor [2, 3, 4] (.tp [(.nm 2), (.nm 3), (.nm 4)]) (iS (eFn Fall_runs [(eVar 0)])) baddress_of_1)) sNext))
    (sRaise "NoStop"))
noncomputable def Faddress_of : List D → Sto → Res D := runD .frz 5 baddress_of
theorem kaddress_of (T : Bt K mg) (Ee : Er K mg cl) (Kk : Kl K mg cl) (I : DefIn K mg "address_of" saddress_of ["book", "rank"]) (Gall_runs : DefOk P w K mg base cl "all_runs" 1 ["walks"] Fall_runs) (Ghouses : DefOk P w K mg base cl "houses" 1 ["run"] Fhouses) (Ghouse_at : DefOk P w K mg base cl "house_at" 2 ["run", "place"] Fhouse_at) : DefOk P w K mg base cl "address_of" 3 ["book", "rank"] Faddress_of := by
  refine def_ok (k := 2) I caddress_of fun f cdv A outer s H E hr => ?_
  have nd := caddress_of.nd
  have tk : L2N.Takes (cxOf (L2N.CX P w) P w K mg base ["book", "rank", "carrier", "spot", "run"] "address_of" (defScope saddress_of) f cdv A outer s H E) (fun c d _ H => E c d H)   := L2N.takes_of rfl rfl rfl rfl
  have hp : PassesOwn (model P w) (cxOf (L2N.CX P w) P w K mg base ["book", "rank", "carrier", "spot", "run"] "address_of" (defScope saddress_of) f cdv A outer s H E).A (cxOf (L2N.CX P w) P w K mg base ["book", "rank", "carrier", "spot", "run"] "address_of" (defScope saddress_of) f cdv A outer s H E).env (cxOf (L2N.CX P w) P w K mg base ["book", "rank", "carrier", "spot", "run"] "address_of" (defScope saddress_of) f cdv A outer s H E).xe := passes_of rfl
  exact (qb_cons (qs_fgt [1, 2, 3, 4] (qs_if (qt_ge (qv 1) qe_int) (qb_one (qs_fgt [1, 2, 3, 4] (qs_for [2, 3, 4] hp rfl (qi_s (qe_fn (Gall_runs.mono (by decide)) hr (by rfl) tk (qa_cons (qv 0) qa_nil))) (qg_tp rfl (qgs_cons (qg_nm nd rfl (by first | exact Or.inl rfl | exact Or.inr rfl)) (qgs_cons (qg_nm nd rfl (by first | exact Or.inl rfl | exact Or.inr rfl)) (qgs_cons (qg_nm nd rfl (by first | exact Or.inl rfl | exact Or.inr rfl)) qgs_nil))) rfl)
    (qb_cons (qs_if (qt_lt (qv 1) (qe_fn (Ghouses.mono (by decide)) hr (by rfl) tk (qa_cons (qv 4) qa_nil))) (qb_one (qs_ret (qe_tup (qa_cons (qe_ix hr (qv 4) qe_int) (qa_cons (qe_fn (Ghouse_at.mono (by decide)) hr (by rfl) tk (qa_cons (qv 4) (qa_cons (qv 1) qa_nil))) qa_nil))))) qb_nil)
    (qb_one (qs_augSub nd rfl (by first | exact Or.inl rfl | exact Or.inr rfl) (qe_fn (Ghouses.mono (by decide)) hr (by rfl) tk (qa_cons (qv 4) qa_nil)))))))) qb_nil))
    (qb_one (qs_raise rfl tk Ee.c_NoStop (by rfl))))

abbrev sstops : Stmt := topS 28
theorem cstops : FnScope ["book", "walk", "run"] ["book"] (defScope sstops) := ⟨rfl, rfl, rfl, by decide +kernel, rfl, by decide +kernel, by decide +kernel⟩
noncomputable def bstops : Stm := (sRet (eCall tupD [(eAno (nLc [1] (.nm 1) (iS (eVar 0)) tYesD (eCall (intsD fun ns => .int ns.sum) [(eAno (nLc [2] (.nm 2) (iS (eVar 1)) tYesD (eFn Fhouses [(eVar 2)])))])))]))
noncomputable def Fstops : List D → Sto → Res D := runD .frz 3 bstops
theorem kstops (T : Bt K mg) (Ee : Er K mg cl) (Kk : Kl K mg cl) (I : DefIn K mg "stops" sstops ["book"]) (Ghouses : DefOk P w K mg base cl "houses" 1 ["run"] Fhouses) : DefOk P w K mg base cl "stops" 2 ["book"] Fstops := by
  refine def_ok (k := 1) I cstops fun f cdv A outer s H E hr => ?_
  have nd := cstops.nd
  have tk : L2N.Takes (cxOf (L2N.CX P w) P w K mg base ["book", "walk", "run"] "stops" (defScope sstops) f cdv A outer s H E) (fun c d _ H => E c d H)   := L2N.takes_of rfl rfl rfl rfl
  have hp : PassesOwn (model P w) (cxOf (L2N.CX P w) P w K mg base ["book", "walk", "run"] "stops" (defScope sstops) f cdv A outer s H E).A (cxOf (L2N.CX P w) P w K mg base ["book", "walk", "run"] "stops" (defScope sstops) f cdv A outer s H E).env (cxOf (L2N.CX P w) P w K mg base ["book", "walk", "run"] "stops" (defScope sstops) f cdv A outer s H E).xe := passes_of rfl
  exact (qb_one (qs_ret (qe_tuple (by rfl) T.tuple (qa_cons (qe_ano (qn_lc (own := [("walk", 1)]) rfl nd (qi_s (qv 0)) (blkOk_by (by rfl)) (by decide) (fun _ _ _ _ _ => (qg_nm nd rfl (by first | exact Or.inl rfl | exact Or.inr rfl))) (fun _ _ _ _ _ => qts_nil) (fun _ _ _ _ _ => (qe_sum rfl (by rfl) T.sum (qa_cons (qe_ano (qn_lc (own := [("run", 2)]) rfl nd (qi_s (qv 1)) (blkOk_by (by rfl)) (by decide) (fun _ _ _ _ _ => (qg_nm nd rfl (by first | exact Or.inl rfl | exact Or.inr rfl))) (fun _ _ _ _ _ => qts_nil) (fun _ _ _ _ _ => (qe_fn (Ghouses.mono (by decide)) hr (by rfl) takesN (qa_cons (qv 2) qa_nil))))) qa_nil))))) qa_nil))))

abbrev sletters_in : Stmt := topS 30
theorem cletters_in : FnScope ["one", "key", "many"] ["one"] (defScope sletters_in) := ⟨rfl, rfl, rfl, by decide +kernel, rfl, by decide +kernel, by decide +kernel⟩
noncomputable def bletters_in : Stm := (sRet (eCall (intsD fun ns => .int ns.sum) [(eAno (nLc [1, 2] (.tp [(.nm 1), (.nm 2)]) (iS (eVar 0)) tYesD (eVar 2)))]))
noncomputable def Fletters_in : List D → Sto → Res D := runD .frz 3 bletters_in
theorem kletters_in (T : Bt K mg) (Ee : Er K mg cl) (Kk : Kl K mg cl) (I : DefIn K mg "letters_in" sletters_in ["one"])  : DefOk P w K mg base cl "letters_in" 1 ["one"] Fletters_in := by
  refine def_ok (k := 0) I cletters_in fun f cdv A outer s H E hr => ?_
  have nd := cletters_in.nd
  have tk : L2N.Takes (cxOf (L2N.CX P w) P w K mg base ["one", "key", "many"] "letters_in" (defScope sletters_in) f cdv A outer s H E) (fun c d _ H => E c d H)   := L2N.takes_of rfl rfl rfl rfl
  have hp : PassesOwn (model P w) (cxOf (L2N.CX P w) P w K mg base ["one", "key", "many"] "letters_in" (defScope sletters_in) f cdv A outer s H E).A (cxOf (L2N.CX P w) P w K mg base ["one", "key", "many"] "letters_in" (defScope sletters_in) f cdv A outer s H E).env (cxOf (L2N.CX P w) P w K mg base ["one", "key", "many"] "letters_in" (defScope sletters_in) f cdv A outer s H E).xe := passes_of rfl
  exact (qb_one (qs_ret (qe_sum rfl (by rfl) T.sum (qa_cons (qe_ano (qn_lc (own := [("key", 1), ("many", 2)]) rfl nd (qi_s (qv 0)) (blkOk_by (by rfl)) (by decide) (fun _ _ _ _ _ => (qg_tp rfl (qgs_cons (qg_nm nd rfl (by first | exact Or.inl rfl | exact Or.inr rfl)) (qgs_cons (qg_nm nd rfl (by first | exact Or.inl rfl | exact Or.inr rfl)) qgs_nil)) rfl)) (fun _ _ _ _ _ => qts_nil) (fun _ _ _ _ _ => (qv 2)))) qa_nil))))

abbrev smany_of : Stmt := topS 39
theorem cmany_of : FnScope ["rows", "row"] ["rows"] (defScope smany_of) := ⟨rfl, rfl, rfl, by decide +kernel, rfl, by decide +kernel, by decide +kernel⟩
noncomputable def bmany_of : Stm := (sRet (eCall (intsD fun ns => .int ns.sum) [(eAno (nLc [1] (.nm 1) (iS (eVar 0)) tYesD (e2 ixD (eVar 1) (e1 negD (eC (.int 1))))))]))
noncomputable def Fmany_of : List D → Sto → Res D := runD .frz 2 bmany_of
theorem kmany_of (T : Bt K mg) (Ee : Er K mg cl) (Kk : Kl K mg cl) (I : DefIn K mg "many_of" smany_of ["rows"])  : DefOk P w K mg base cl "many_of" 1 ["rows"] Fmany_of := by
  refine def_ok (k := 0) I cmany_of fun f cdv A outer s H E hr => ?_
  have nd := cmany_of.nd
  have tk : L2N.Takes (cxOf (L2N.CX P w) P w K mg base ["rows", "row"] "many_of" (defScope smany_of) f cdv A outer s H E) (fun c d _ H => E c d H)   := L2N.takes_of rfl rfl rfl rfl
  have hp : PassesOwn (model P w) (cxOf (L2N.CX P w) P w K mg base ["rows", "row"] "many_of" (defScope smany_of) f cdv A outer s H E).A (cxOf (L2N.CX P w) P w K mg base ["rows", "row"] "many_of" (defScope smany_of) f cdv A outer s H E).env (cxOf (L2N.CX P w) P w K mg base ["rows", "row"] "many_of" (defScope smany_of) f cdv A outer s H E).xe := passes_of rfl
  exact (qb_one (qs_ret (qe_sum rfl (by rfl) T.sum (qa_cons (qe_ano (qn_lc (own := [("row", 1)]) rfl nd (qi_s (qv 0)) (blkOk_by (by rfl)) (by decide) (fun _ _ _ _ _ => (qg_nm nd rfl (by first | exact Or.inl rfl | exact Or.inr rfl))) (fun _ _ _ _ _ => qts_nil) (fun _ _ _ _ _ => (qe_ix hr (qv 1) (qe_neg qe_int))))) qa_nil))))

abbrev sOffice___init__ : Stmt := inClass (topS 40) 0
theorem cOffice___init__ : FnScope ["self", "book"] ["self", "book"] (defScope sOffice___init__) := ⟨rfl, rfl, rfl, by decide +kernel, rfl, by decide +kernel, by decide +kernel⟩
noncomputable def bOffice___init__ : Stm := (sSeq (sIf (tNotD (eTr (eFn Fis_book [(eVar 1)]))) (sRaise "NoBook") sNext)
    (sSeq (sFl "Office" "walks" (eVar 1) (eVar 0))
    (sSeq (sFl "Office" "today" (eC (.int 0)) (eVar 0))
    (sSeq (sFl "Office" "in_force" (eTup []) (eVar 0))
    (sSeq (sFl "Office" "loose" (eTup []) (eVar 0))
    (sSeq (sFl "Office" "kept" (eNew (nLst [])) (eVar 0))
    (sSeq (sFl "Office" "strays" (eNew (nLst [])) (eVar 0))
    (sSeq (sFl "Office" "unread" (eNew (nLst [])) (eVar 0))
    (sSeq (sFl "Office" "numbered" (eC (.int 0)) (eVar 0))
    (sSeq (sFl "Office" "sorted_on" (eTup []) (eVar 0))
    (sFl "Office" "left" (eC (.int 0)) (eVar 0))))))))))))
noncomputable def FOffice___init__ : List D → Sto → Res D := runD .keep 2 bOffice___init__
theorem kOffice___init__ (T : Bt K mg) (Ee : Er K mg cl) (Kk : Kl K mg cl) (I : MethIn K cl "Office" "__init__" "Office.__init__" sOffice___init__ ["self", "book"]) (Gis_book : DefOk P w K mg base cl "is_book" 5 ["some"] Fis_book) : MethOk P w K mg base cl "Office" "__init__" 6 ["self", "book"] FOffice___init__ := by
  refine meth_ok (k := 5) I cOffice___init__ fun f cdv A outer s H E hr => ?_
  have nd := cOffice___init__.nd
  have tk : L2N.Takes (cxOf (L2N.CX P w) P w K mg base ["self", "book"] "Office.__init__" (defScope sOffice___init__) f cdv A outer s H E) (fun c d _ H => E c d H)   := L2N.takes_of rfl rfl rfl rfl
  have hp : PassesOwn (model P w) (cxOf (L2N.CX P w) P w K mg base ["self", "book"] "Office.__init__" (defScope sOffice___init__) f cdv A outer s H E).A (cxOf (L2N.CX P w) P w K mg base ["self", "book"] "Office.__init__" (defScope sOffice___init__) f cdv A outer s H E).env (cxOf (L2N.CX P w) P w K mg base ["self", "book"] "Office.__init__" (defScope sOffice___init__) f cdv A outer s H E).xe := passes_of rfl
  exact (qb_cons (qs_if (qt_not (qt_val (qe_fn (Gis_book.mono (by decide)) hr (by rfl) tk (qa_cons (qv 1) qa_nil)))) (qb_one (qs_raise rfl tk Ee.c_NoBook (by rfl))) qb_nil)
    (qb_cons (qs_fld Kk.c_Office Kk.n_Office_walks (qv 0) (qv 1))
    (qb_cons (qs_fld Kk.c_Office Kk.n_Office_today (qv 0) qe_int)
    (qb_cons (qs_fld Kk.c_Office Kk.n_Office_in_force (qv 0) (qe_tup qa_nil))
    (qb_cons (qs_fld Kk.c_Office Kk.n_Office_loose (qv 0) (qe_tup qa_nil))
    (qb_cons (qs_fld Kk.c_Office Kk.n_Office_kept (qv 0) (qe_new (qn_lst qa_nil)))
    (qb_cons (qs_fld Kk.c_Office Kk.n_Office_strays (qv 0) (qe_new (qn_lst qa_nil)))
    (qb_cons (qs_fld Kk.c_Office Kk.n_Office_unread (qv 0) (qe_new (qn_lst qa_nil)))
    (qb_cons (qs_fld Kk.c_Office Kk.n_Office_numbered (qv 0) qe_int)
    (qb_cons (qs_fld Kk.c_Office Kk.n_Office_sorted_on (qv 0) (qe_tup qa_nil))
    (qb_one (qs_fld Kk.c_Office Kk.n_Office_left (qv 0) qe_int))))))))))))

abbrev sOffice_bundle : Stmt := inClass (topS 40) 7
theorem cOffice_bundle : FnScope ["self", "carrier", "many", "low", "rows", "row", "rank", "often"] ["self", "carrier"] (defScope sOffice_bundle) := ⟨rfl, rfl, rfl, by decide +kernel, rfl, by decide +kernel, by decide +kernel⟩
noncomputable def bOffice_bundle : Stm := (sSeq (sSet 2 (eFn Fstops [(e1 (fldD "Office" "walks") (eVar 0))]))
    (sSeq (sIf (tNotD (eTB (eCh leD ltD (eC (.int 0)) (eVar 1) (eCall lenD [(eVar 2)])))) (sRaise "NoCarrier") sNext)
    (sSeq (sSet 3 (eCall smB [(eSl (eVar 2) pN (pE (eVar 1)))]))
    (sSeq (sSet 4 (eAno (nLc [5] (.nm 5) (iS (e1 (fldD "Office" "sorted_on") (eVar 0))) (eTB (eCh leD ltD (eVar 3) (e2 ixD (eVar 5) (eC (.int 0))) (e2 addD (eVar 3) (e2 ixD (eVar 2) (eVar 1))))) (eVar 5))))
    (sRet (eCall tupD [(eAno (nLc [6, 7] (.tp [(.nm 6), (.nm 7)]) (iS (eVar 4)) tYesD (eTup [(eFn Faddress_of [(e1 (fldD "Office" "walks") (eVar 0)), (eVar 6)]), (eVar 7)])))]))))))
noncomputable def FOffice_bundle : List D → Sto → Res D := runD .frz 8 bOffice_bundle
theorem kOffice_bundle (T : Bt K mg) (Ee : Er K mg cl) (Kk : Kl K mg cl) (I : MethIn K cl "Office" "bundle" "Office.bundle" sOffice_bundle ["self", "carrier"]) (Gstops : DefOk P w K mg base cl "stops" 2 ["book"] Fstops) (Gaddress_of : DefOk P w K mg base cl "address_of" 3 ["book", "rank"] Faddress_of) : MethOk P w K mg base cl "Office" "bundle" 4 ["self", "carrier"] FOffice_bundle := by
  refine meth_ok (k := 3) I cOffice_bundle fun f cdv A outer s H E hr => ?_
  have nd := cOffice_bundle.nd
  have tk : L2N.Takes (cxOf (L2N.CX P w) P w K mg base ["self", "carrier", "many", "low", "rows", "row", "rank", "often"] "Office.bundle" (defScope sOffice_bundle) f cdv A outer s H E) (fun c d _ H => E c d H)   := L2N.takes_of rfl rfl rfl rfl
  have hp : PassesOwn (model P w) (cxOf (L2N.CX P w) P w K mg base ["self", "carrier", "many", "low", "rows", "row", "rank", "often"] "Office.bundle" (defScope sOffice_bundle) f cdv A outer s H E).A (cxOf (L2N.CX P w) P w K mg base ["self", "carrier", "many", "low", "rows", "row", "rank", "often"] "Office.bundle" (defScope sOffice_bundle) f cdv A outer s H E).env (cxOf (L2N.CX P w) P w K mg base ["self", "carrier", "many", "low", "rows", "row", "rank", "often"] "Office.bundle" (defScope sOffice_bundle) f cdv A outer s H E).xe := passes_of rfl
  exact (qb_cons (qs_set nd rfl (by first | exact Or.inl rfl | exact Or.inr rfl) (qe_fn (Gstops.mono (by decide)) hr (by rfl) tk (qa_cons (qe_fld Kk.c_Office Kk.n_Office_walks (qv 0)) qa_nil)))
    (qb_cons (qs_if (qt_not (qt_lelt qe_int (qv 1) (qe_len (by rfl) T.len (qa_cons (qv 2) qa_nil)))) (qb_one (qs_raise rfl tk Ee.c_NoCarrier (by rfl))) qb_nil)
    (qb_cons (qs_set nd rfl (by first | exact Or.inl rfl | exact Or.inr rfl) (qe_sumB rfl (by rfl) T.sum (qa_cons (qe_sl (qv 2) qp_n (qp_e (qv 1))) qa_nil)))
    (qb_cons (qs_setLc (own := [("row", 5)]) rfl nd rfl rfl (sw_true rfl rfl rfl (by decide +kernel)) (qi_s (qe_fld Kk.c_Office Kk.n_Office_sorted_on (qv 0))) (blkOk_by (by rfl)) (by decide) (fun _ _ _ _ _ => (qg_nm nd rfl (by first | exact Or.inl rfl | exact Or.inr rfl))) (fun _ _ _ _ _ => (qts_one (qt_lelt (qv 3) (qe_ix hr (qv 5) qe_int) (qe_add (qv 3) (qe_ix hr (qv 2) (qv 1)))))) (fun _ _ _ _ _ => (qv 5)) imp_ano)
    (qb_one (qs_ret (qe_tuple (by rfl) T.tuple (qa_cons (qe_ano (qn_lc (own := [("rank", 6), ("often", 7)]) rfl nd (qi_s (qv 4)) (blkOk_by (by rfl)) (by decide) (fun _ _ _ _ _ => (qg_tp rfl (qgs_cons (qg_nm nd rfl (by first | exact Or.inl rfl | exact Or.inr rfl)) (qgs_cons (qg_nm nd rfl (by first | exact Or.inl rfl | exact Or.inr rfl)) qgs_nil)) rfl)) (fun _ _ _ _ _ => qts_nil) (fun _ _ _ _ _ => (qe_tup (qa_cons (qe_fn (Gaddress_of.mono (by decide)) hr (by rfl) takesN (qa_cons (qe_fld Kk.c_Office Kk.n_Office_walks (qv 0)) (qa_cons (qv 6) qa_nil))) (qa_cons (qv 7) qa_nil)))))) qa_nil))))))))

abbrev sOffice_day : Stmt := inClass (topS 40) 10
theorem cOffice_day : FnScope ["self"] ["self"] (defScope sOffice_day) := ⟨rfl, rfl, rfl, by decide +kernel, rfl, by decide +kernel, by decide +kernel⟩
noncomputable def bOffice_day : Stm := (sRet (e1 (fldD "Office" "today") (eVar 0)))
noncomputable def FOffice_day : List D → Sto → Res D := runD .frz 1 bOffice_day
theorem kOffice_day (T : Bt K mg) (Ee : Er K mg cl) (Kk : Kl K mg cl) (I : MethIn K cl "Office" "day" "Office.day" sOffice_day ["self"])  : MethOk P w K mg base cl "Office" "day" 1 ["self"] FOffice_day := by
  refine meth_ok (k := 0) I cOffice_day fun f cdv A outer s H E hr => ?_
  have nd := cOffice_day.nd
  have tk : L2N.Takes (cxOf (L2N.CX P w) P w K mg base ["self"] "Office.day" (defScope sOffice_day) f cdv A outer s H E) (fun c d _ H => E c d H)   := L2N.takes_of rfl rfl rfl rfl
  have hp : PassesOwn (model P w) (cxOf (L2N.CX P w) P w K mg base ["self"] "Office.day" (defScope sOffice_day) f cdv A outer s H E).A (cxOf (L2N.CX P w) P w K mg base ["self"] "Office.day" (defScope sOffice_day) f cdv A outer s H E).env (cxOf (L2N.CX P w) P w K mg base ["self"] "Office.day" (defScope sOffice_day) f cdv A outer s H E).xe := passes_of rfl
  exact (qb_one (qs_ret (qe_fld Kk.c_Office Kk.n_Office_today (qv 0))))

abbrev sOffice_orders : Stmt := inClass (topS 40) 11
theorem cOffice_orders : FnScope ["self"] ["self"] (defScope sOffice_orders) := ⟨rfl, rfl, rfl, by decide +kernel, rfl, by decide +kernel, by decide +kernel⟩
noncomputable def bOffice_orders : Stm := (sRet (e1 (fldD "Office" "in_force") (eVar 0)))
noncomputable def FOffice_orders : List D → Sto → Res D := runD .frz 1 bOffice_orders
theorem kOffice_orders (T : Bt K mg) (Ee : Er K mg cl) (Kk : Kl K mg cl) (I : MethIn K cl "Office" "orders" "Office.orders" sOffice_orders ["self"])  : MethOk P w K mg base cl "Office" "orders" 1 ["self"] FOffice_orders := by
  refine meth_ok (k := 0) I cOffice_orders fun f cdv A outer s H E hr => ?_
  have nd := cOffice_orders.nd
  have tk : L2N.Takes (cxOf (L2N.CX P w) P w K mg base ["self"] "Office.orders" (defScope sOffice_orders) f cdv A outer s H E) (fun c d _ H => E c d H)   := L2N.takes_of rfl rfl rfl rfl
  have hp : PassesOwn (model P w) (cxOf (L2N.CX P w) P w K mg base ["self"] "Office.orders" (defScope sOffice_orders) f cdv A outer s H E).A (cxOf (L2N.CX P w) P w K mg base ["self"] "Office.orders" (defScope sOffice_orders) f cdv A outer s H E).env (cxOf (L2N.CX P w) P w K mg base ["self"] "Office.orders" (defScope sOffice_orders) f cdv A outer s H E).xe := passes_of rfl
  exact (qb_one (qs_ret (qe_fld Kk.c_Office Kk.n_Office_in_force (qv 0))))

abbrev sOffice_hand : Stmt := inClass (topS 40) 12
theorem cOffice_hand : FnScope ["self"] ["self"] (defScope sOffice_hand) := ⟨rfl, rfl, rfl, by decide +kernel, rfl, by decide +kernel, by decide +kernel⟩
noncomputable def bOffice_hand : Stm := (sRet (e1 (fldD "Office" "loose") (eVar 0)))
noncomputable def FOffice_hand : List D → Sto → Res D := runD .frz 1 bOffice_hand
theorem kOffice_hand (T : Bt K mg) (Ee : Er K mg cl) (Kk : Kl K mg cl) (I : MethIn K cl "Office" "hand" "Office.hand" sOffice_hand ["self"])  : MethOk P w K mg base cl "Office" "hand" 1 ["self"] FOffice_hand := by
  refine meth_ok (k := 0) I cOffice_hand fun f cdv A outer s H E hr => ?_
  have nd := cOffice_hand.nd
  have tk : L2N.Takes (cxOf (L2N.CX P w) P w K mg base ["self"] "Office.hand" (defScope sOffice_hand) f cdv A outer s H E) (fun c d _ H => E c d H)   := L2N.takes_of rfl rfl rfl rfl
  have hp : PassesOwn (model P w) (cxOf (L2N.CX P w) P w K mg base ["self"] "Office.hand" (defScope sOffice_hand) f cdv A outer s H E).A (cxOf (L2N.CX P w) P w K mg base ["self"] "Office.hand" (defScope sOffice_hand) f cdv A outer s H E).env (cxOf (L2N.CX P w) P w K mg base ["self"] "Office.hand" (defScope sOffice_hand) f cdv A outer s H E).xe := passes_of rfl
  exact (qb_one (qs_ret (qe_fld Kk.c_Office Kk.n_Office_loose (qv 0))))

abbrev sOffice_held : Stmt := inClass (topS 40) 13
theorem cOffice_held : FnScope ["self"] ["self"] (defScope sOffice_held) := ⟨rfl, rfl, rfl, by decide +kernel, rfl, by decide +kernel, by decide +kernel⟩
noncomputable def bOffice_held : Stm := (sRet (eCall tupD [(e1 (fldD "Office" "kept") (eVar 0))]))
noncomputable def FOffice_held : List D → Sto → Res D := runD .frz 1 bOffice_held
theorem kOffice_held (T : Bt K mg) (Ee : Er K mg cl) (Kk : Kl K mg cl) (I : MethIn K cl "Office" "held" "Office.held" sOffice_held ["self"])  : MethOk P w K mg base cl "Office" "held" 1 ["self"] FOffice_held := by
  refine meth_ok (k := 0) I cOffice_held fun f cdv A outer s H E hr => ?_
  have nd := cOffice_held.nd
  have tk : L2N.Takes (cxOf (L2N.CX P w) P w K mg base ["self"] "Office.held" (defScope sOffice_held) f cdv A outer s H E) (fun c d _ H => E c d H)   := L2N.takes_of rfl rfl rfl rfl
  have hp : PassesOwn (model P w) (cxOf (L2N.CX P w) P w K mg base ["self"] "Office.held" (defScope sOffice_held) f cdv A outer s H E).A (cxOf (L2N.CX P w) P w K mg base ["self"] "Office.held" (defScope sOffice_held) f cdv A outer s H E).env (cxOf (L2N.CX P w) P w K mg base ["self"] "Office.held" (defScope sOffice_held) f cdv A outer s H E).xe := passes_of rfl
  exact (qb_one (qs_ret (qe_tuple (by rfl) T.tuple (qa_cons (qe_fld Kk.c_Office Kk.n_Office_kept (qv 0)) qa_nil))))

abbrev sOffice_astray : Stmt := inClass (topS 40) 14
theorem cOffice_astray : FnScope ["self"] ["self"] (defScope sOffice_astray) := ⟨rfl, rfl, rfl, by decide +kernel, rfl, by decide +kernel, by decide +kernel⟩
noncomputable def bOffice_astray : Stm := (sRet (eCall tupD [(e1 (fldD "Office" "strays") (eVar 0))]))
noncomputable def FOffice_astray : List D → Sto → Res D := runD .frz 1 bOffice_astray
theorem kOffice_astray (T : Bt K mg) (Ee : Er K mg cl) (Kk : Kl K mg cl) (I : MethIn K cl "Office" "astray" "Office.astray" sOffice_astray ["self"])  : MethOk P w K mg base cl "Office" "astray" 1 ["self"] FOffice_astray := by
  refine meth_ok (k := 0) I cOffice_astray fun f cdv A outer s H E hr => ?_
  have nd := cOffice_astray.nd
  have tk : L2N.Takes (cxOf (L2N.CX P w) P w K mg base ["self"] "Office.astray" (defScope sOffice_astray) f cdv A outer s H E) (fun c d _ H => E c d H)   := L2N.takes_of rfl rfl rfl rfl
  have hp : PassesOwn (model P w) (cxOf (L2N.CX P w) P w K mg base ["self"] "Office.astray" (defScope sOffice_astray) f cdv A outer s H E).A (cxOf (L2N.CX P w) P w K mg base ["self"] "Office.astray" (defScope sOffice_astray) f cdv A outer s H E).env (cxOf (L2N.CX P w) P w K mg base ["self"] "Office.astray" (defScope sOffice_astray) f cdv A outer s H E).xe := passes_of rfl
  exact (qb_one (qs_ret (qe_tuple (by rfl) T.tuple (qa_cons (qe_fld Kk.c_Office Kk.n_Office_strays (qv 0)) qa_nil))))

abbrev sOffice_unreadable : Stmt := inClass (topS 40) 15
theorem cOffice_unreadable : FnScope ["self"] ["self"] (defScope sOffice_unreadable) := ⟨rfl, rfl, rfl, by decide +kernel, rfl, by decide +kernel, by decide +kernel⟩
noncomputable def bOffice_unreadable : Stm := (sRet (eCall tupD [(e1 (fldD "Office" "unread") (eVar 0))]))
noncomputable def FOffice_unreadable : List D → Sto → Res D := runD .frz 1 bOffice_unreadable
theorem kOffice_unreadable (T : Bt K mg) (Ee : Er K mg cl) (Kk : Kl K mg cl) (I : MethIn K cl "Office" "unreadable" "Office.unreadable" sOffice_unreadable ["self"])  : MethOk P w K mg base cl "Office" "unreadable" 1 ["self"] FOffice_unreadable := by
  refine meth_ok (k := 0) I cOffice_unreadable fun f cdv A outer s H E hr => ?_
  have nd := cOffice_unreadable.nd
  have tk : L2N.Takes (cxOf (L2N.CX P w) P w K mg base ["self"] "Office.unreadable" (defScope sOffice_unreadable) f cdv A outer s H E) (fun c d _ H => E c d H)   := L2N.takes_of rfl rfl rfl rfl
  have hp : PassesOwn (model P w) (cxOf (L2N.CX P w) P w K mg base ["self"] "Office.unreadable" (defScope sOffice_unreadable) f cdv A outer s H E).A (cxOf (L2N.CX P w) P w K mg base ["self"] "Office.unreadable" (defScope sOffice_unreadable) f cdv A outer s H E).env (cxOf (L2N.CX P w) P w K mg base ["self"] "Office.unreadable" (defScope sOffice_unreadable) f cdv A outer s H E).xe := passes_of rfl
  exact (qb_one (qs_ret (qe_tuple (by rfl) T.tuple (qa_cons (qe_fld Kk.c_Office Kk.n_Office_unread (qv 0)) qa_nil))))

abbrev sOffice_bundled : Stmt := inClass (topS 40) 16
theorem cOffice_bundled : FnScope ["self"] ["self"] (defScope sOffice_bundled) := ⟨rfl, rfl, rfl, by decide +kernel, rfl, by decide +kernel, by decide +kernel⟩
noncomputable def bOffice_bundled : Stm := (sRet (e1 (fldD "Office" "sorted_on") (eVar 0)))
noncomputable def FOffice_bundled : List D → Sto → Res D := runD .frz 1 bOffice_bundled
theorem kOffice_bundled (T : Bt K mg) (Ee : Er K mg cl) (Kk : Kl K mg cl) (I : MethIn K cl "Office" "bundled" "Office.bundled" sOffice_bundled ["self"])  : MethOk P w K mg base cl "Office" "bundled" 1 ["self"] FOffice_bundled := by
  refine meth_ok (k := 0) I cOffice_bundled fun f cdv A outer s H E hr => ?_
  have nd := cOffice_bundled.nd
  have tk : L2N.Takes (cxOf (L2N.CX P w) P w K mg base ["self"] "Office.bundled" (defScope sOffice_bundled) f cdv A outer s H E) (fun c d _ H => E c d H)   := L2N.takes_of rfl rfl rfl rfl
  have hp : PassesOwn (model P w) (cxOf (L2N.CX P w) P w K mg base ["self"] "Office.bundled" (defScope sOffice_bundled) f cdv A outer s H E).A (cxOf (L2N.CX P w) P w K mg base ["self"] "Office.bundled" (defScope sOffice_bundled) f cdv A outer s H E).env (cxOf (L2N.CX P w) P w K mg base ["self"] "Office.bundled" (defScope sOffice_bundled) f cdv A outer s H E).xe := passes_of rfl
  exact (qb_one (qs_ret (qe_fld Kk.c_Office Kk.n_Office_sorted_on (qv 0))))

abbrev sOffice_counts : Stmt := inClass (topS 40) 17
theorem cOffice_counts : FnScope ["self", "found"] ["self"] (defScope sOffice_counts) := ⟨rfl, rfl, rfl, by decide +kernel, rfl, by decide +kernel, by decide +kernel⟩
noncomputable def bOffice_counts : Stm := (sSeq (sSet 1 (eAno (nLst [(eFn Fletters_in [(e1 (fldD "Office" "loose") (eVar 0))]), (eFn Fmany_of [(e1 (fldD "Office" "kept") (eVar 0))]), (eFn Fmany_of [(e1 (fldD "Office" "strays") (eVar 0))]), (eFn Fmany_of [(e1 (fldD "Office" "unread") (eVar 0))])])))
    (sSeq (sSet 1 (e2 addD (eVar 1) (eAno (nLst [(eFn Fletters_in [(e1 (fldD "Office" "sorted_on") (eVar 0))]), (e1 (fldD "Office" "left") (eVar 0))]))))
    (sRet (eCall tupD [(e2 addD (eAno (nLst [(eCall (intsD fun ns => .int ns.sum) [(eVar 1)])])) (eVar 1))]))))
noncomputable def FOffice_counts : List D → Sto → Res D := runD .frz 2 bOffice_counts
theorem kOffice_counts (T : Bt K mg) (Ee : Er K mg cl) (Kk : Kl K mg cl) (I : MethIn K cl "Office" "counts" "Office.counts" sOffice_counts ["self"]) (Gletters_in : DefOk P w K mg base cl "letters_in" 1 ["one"] Fletters_in) (Gmany_of : DefOk P w K mg base cl "many_of" 1 ["rows"] Fmany_of) : MethOk P w K mg base cl "Office" "counts" 2 ["self"] FOffice_counts := by
  refine meth_ok (k := 1) I cOffice_counts fun f cdv A outer s H E hr => ?_
  have nd := cOffice_counts.nd
  have tk : L2N.Takes (cxOf (L2N.CX P w) P w K mg base ["self", "found"] "Office.counts" (defScope sOffice_counts) f cdv A outer s H E) (fun c d _ H => E c d H)   := L2N.takes_of rfl rfl rfl rfl
  have hp : PassesOwn (model P w) (cxOf (L2N.CX P w) P w K mg base ["self", "found"] "Office.counts" (defScope sOffice_counts) f cdv A outer s H E).A (cxOf (L2N.CX P w) P w K mg base ["self", "found"] "Office.counts" (defScope sOffice_counts) f cdv A outer s H E).env (cxOf (L2N.CX P w) P w K mg base ["self", "found"] "Office.counts" (defScope sOffice_counts) f cdv A outer s H E).xe := passes_of rfl
  exact (qb_cons (qs_set nd rfl (by first | exact Or.inl rfl | exact Or.inr rfl) (qe_ano (qn_lst (qa_cons (qe_fn (Gletters_in.mono (by decide)) hr (by rfl) tk (qa_cons (qe_fld Kk.c_Office Kk.n_Office_loose (qv 0)) qa_nil)) (qa_cons (qe_fn (Gmany_of.mono (by decide)) hr (by rfl) tk (qa_cons (qe_fld Kk.c_Office Kk.n_Office_kept (qv 0)) qa_nil)) (qa_cons (qe_fn (Gmany_of.mono (by decide)) hr (by rfl) tk (qa_cons (qe_fld Kk.c_Office Kk.n_Office_strays (qv 0)) qa_nil)) (qa_cons (qe_fn (Gmany_of.mono (by decide)) hr (by rfl) tk (qa_cons (qe_fld Kk.c_Office Kk.n_Office_unread (qv 0)) qa_nil)) qa_nil)))))))
    (qb_cons (qs_set nd rfl (by first | exact Or.inl rfl | exact Or.inr rfl) (qe_add (qv 1) (qe_ano (qn_lst (qa_cons (qe_fn (Gletters_in.mono (by decide)) hr (by rfl) tk (qa_cons (qe_fld Kk.c_Office Kk.n_Office_sorted_on (qv 0)) qa_nil)) (qa_cons (qe_fld Kk.c_Office Kk.n_Office_left (qv 0)) qa_nil))))))
    (qb_one (qs_ret (qe_tuple (by rfl) T.tuple (qa_cons (qe_add (qe_ano (qn_lst (qa_cons (qe_sum rfl (by rfl) T.sum (qa_cons (qv 1) qa_nil)) qa_nil))) (qv 1)) qa_nil))))))

abbrev s_law_cell_at : Stmt := topS 42
theorem c_law_cell_at : FnScope ["_law_script", "_law_k"] ["_law_script", "_law_k"] (defScope s_law_cell_at) := ⟨rfl, rfl, rfl, by decide +kernel, rfl, by decide +kernel, by decide +kernel⟩
noncomputable def b_law_cell_at : Stm := (sSeq (sIf (eTB (e2 ltD (eVar 1) (eCall lenD [(eVar 0)]))) (sRet (e2 ixD (eVar 0) (eVar 1))) sNext)
    (sRet (eC (.int 0))))
noncomputable def F_law_cell_at : List D → Sto → Res D := runD .frz 2 b_law_cell_at
theorem k_law_cell_at (T : Bt K mg) (Ee : Er K mg cl) (Kk : Kl K mg cl) (I : DefIn K mg "_law_cell_at" s_law_cell_at ["_law_script", "_law_k"])  : DefOk P w K mg base cl "_law_cell_at" 1 ["_law_script", "_law_k"] F_law_cell_at := by
  refine def_ok (k := 0) I c_law_cell_at fun f cdv A outer s H E hr => ?_
  have nd := c_law_cell_at.nd
  have tk : L2N.Takes (cxOf (L2N.CX P w) P w K mg base ["_law_script", "_law_k"] "_law_cell_at" (defScope s_law_cell_at) f cdv A outer s H E) (fun c d _ H => E c d H)   := L2N.takes_of rfl rfl rfl rfl
  have hp : PassesOwn (model P w) (cxOf (L2N.CX P w) P w K mg base ["_law_script", "_law_k"] "_law_cell_at" (defScope s_law_cell_at) f cdv A outer s H E).A (cxOf (L2N.CX P w) P w K mg base ["_law_script", "_law_k"] "_law_cell_at" (defScope s_law_cell_at) f cdv A outer s H E).env (cxOf (L2N.CX P w) P w K mg base ["_law_script", "_law_k"] "_law_cell_at" (defScope s_law_cell_at) f cdv A outer s H E).xe := passes_of rfl
  exact (qb_cons (qs_if (qt_lt (qv 1) (qe_len (by rfl) T.len (qa_cons (qv 0) qa_nil))) (qb_one (qs_ret (qe_ix hr (qv 0) (qv 1)))) qb_nil)
    (qb_one (qs_ret qe_int)))

abbrev s_law_bag : Stmt := topS 43
theorem c_law_bag : FnScope ["_law_script", "_law_at", "_law_primes", "_law_cell", "_law_mix", "_law_k", "_law_one"] ["_law_script", "_law_at"] (defScope s_law_bag) := ⟨rfl, rfl, rfl, by decide +kernel, rfl, by decide +kernel, by decide +kernel⟩
noncomputable def b_law_bag_1 : Stm := (sSeq (sSet 6 (e2 addD (e2 addD (e2 modD (eFn F_law_cell_at [(eVar 0), (e2 addD (eVar 1) (eVar 5))]) (e2 powD (eC (.int 10)) (eC (.int 18)))) (e2 mulD (eC (.int 7)) (eVar 5))) (eC (.int 1))))
    (sSet 4 (e2 modD (e2 addD (e2 mulD (eVar 4) (eC (.int 48271))) (e2 modD (e2 powD (eVar 6) (eC (.int 3))) (e2 ixD (eVar 2) (eVar 5)))) (eC (.int 2147483629)))))
noncomputable def b_law_bag : Stm := (sSeq (sSet 2 (eTup [(eC (.int 99989)), (eC (.int 99971)), (eC (.int 99961)), (eC (.int 99929)), (eC (.int 99923)), (eC (.int 99907)), (eC (.int 99901)), (eC (.int 99881)), (eC (.int 99877))]))
    (sSeq (sSet 3 (eFn F_law_cell_at [(eVar 0), (eVar 1)]))
    (sSeq (sSet 4 (e2 addD (e2 mulD (eC (.int 7919)) (eVar 1)) (eC (.int 17))))
    (sSeq (sFgt [5, 6] (sFor [5, 6] (.nm 5) (iR1 (eC (.int 9))) b_law_bag_1))
    (sSeq (sIf (eTB (e2 ltD (eVar 3) (e2 powD (eC (.int 10)) (eC (.int 18))))) (sSet 3 (eC (.int 0))) sNext)
    (sRet (eNew (nLst [(eVar 3), (e2 addD (eVar 4) (eC (.int 1)))]))))))))
noncomputable def F_law_bag : List D → Sto → Res D := runD .new 7 b_law_bag
theorem k_law_bag (T : Bt K mg) (Ee : Er K mg cl) (Kk : Kl K mg cl) (I : DefIn K mg "_law_bag" s_law_bag ["_law_script", "_law_at"]) (G_law_cell_at : DefOk P w K mg base cl "_law_cell_at" 1 ["_law_script", "_law_k"] F_law_cell_at) : DefOk P w K mg base cl "_law_bag" 2 ["_law_script", "_law_at"] F_law_bag := by
  refine def_ok (k := 1) I c_law_bag fun f cdv A outer s H E hr => ?_
  have nd := c_law_bag.nd
  have tk : L2N.Takes (cxOf (L2N.CX P w) P w K mg base ["_law_script", "_law_at", "_law_primes", "_law_cell", "_law_mix", "_law_k", "_law_one"] "_law_bag" (defScope s_law_bag) f cdv A outer s H E) (fun c d _ H => E c d H)   := L2N.takes_of rfl rfl rfl rfl
  have hp : PassesOwn (model P w) (cxOf (L2N.CX P w) P w K mg base ["_law_script", "_law_at", "_law_primes", "_law_cell", "_law_mix", "_law_k", "_law_one"] "_law_bag" (defScope s_law_bag) f cdv A outer s H E).A (cxOf (L2N.CX P w) P w K mg base ["_law_script", "_law_at", "_law_primes", "_law_cell", "_law_mix", "_law_k", "_law_one"] "_law_bag" (defScope s_law_bag) f cdv A outer s H E).env (cxOf (L2N.CX P w) P w K mg base ["_law_script", "_law_at", "_law_primes", "_law_cell", "_law_mix", "_law_k", "_law_one"] "_law_bag" (defScope s_law_bag) f cdv A outer s H E).xe := passes_of rfl
  exact (qb_cons (qs_set nd rfl (by first | exact Or.inl rfl | exact Or.inr rfl) (qe_tup (qa_cons qe_int (qa_cons qe_int (qa_cons qe_int (qa_cons qe_int (qa_cons qe_int (qa_cons qe_int (qa_cons qe_int (qa_cons qe_int (qa_cons qe_int qa_nil)))))))))))
    (qb_cons (qs_set nd rfl (by first | exact Or.inl rfl | exact Or.inr rfl) (qe_fn (G_law_cell_at.mono (by decide)) hr (by rfl) tk (qa_cons (qv 0) (qa_cons (qv 1) qa_nil))))
    (qb_cons (qs_set nd rfl (by first | exact Or.inl rfl | exact Or.inr rfl) (qe_add (qe_mul qe_int (qv 1)) qe_int))
    (qb_cons (qs_fgt [5, 6] (qs_for [5, 6] hp rfl (qi_r1 (by rfl) T.range qe_int) (qg_nm nd rfl (by first | exact Or.inl rfl | exact Or.inr rfl))
    (qb_cons (qs_set nd rfl (by first | exact Or.inl rfl | exact Or.inr rfl) (qe_add (qe_add (qe_mod (qe_fn (G_law_cell_at.mono (by decide)) hr (by rfl) tk (qa_cons (qv 0) (qa_cons (qe_add (qv 1) (qv 5)) qa_nil))) (qe_pow qe_int qe_int)) (qe_mul qe_int (qv 5))) qe_int))
    (qb_one (qs_set nd rfl (by first | exact Or.inl rfl | exact Or.inr rfl) (qe_mod (qe_add (qe_mul (qv 4) qe_int) (qe_mod (qe_pow (qv 6) qe_int) (qe_ix hr (qv 2) (qv 5)))) qe_int))))))
    (qb_cons (qs_if (qt_lt (qv 3) (qe_pow qe_int qe_int)) (qb_one (qs_set nd rfl (by first | exact Or.inl rfl | exact Or.inr rfl) qe_int)) qb_nil)
    (qb_one (qs_ret (qe_new (qn_lst (qa_cons (qv 3) (qa_cons (qe_add (qv 4) qe_int) qa_nil)))))))))))

abbrev s_law_take : Stmt := topS 44
theorem c_law_take : FnScope ["_law_bag_here", "_law_many", "_law_digit", "_law_found", "_law_room"] ["_law_bag_here", "_law_many"] (defScope s_law_take) := ⟨rfl, rfl, rfl, by decide +kernel, rfl, by decide +kernel, by decide +kernel⟩
noncomputable def b_law_take_1 : Stm := (sSeq (sSt (e2 modD (e2 mulD (e2 ixD (eVar 0) (eC (.int 1))) (eC (.int 48271))) (eC (.int 2147483647))) (eVar 0) (eC (.int 1)))
    (sSeq (sSet 3 (e2 addD (e2 mulD (eVar 3) (eC (.int 1000003))) (e2 modD (e2 modD (e2 powD (e2 ixD (eVar 0) (eC (.int 1))) (eC (.int 3))) (eC (.int 2147483629))) (eC (.int 1000003)))))
    (sSet 4 (e2 mulD (eVar 4) (eC (.int 1000003))))))
noncomputable def b_law_take : Stm := (sSeq (sFgt [2] (sIf (eTB (e2 gtD (e2 ixD (eVar 0) (eC (.int 0))) (eC (.int 0)))) (sSeq (sSet 2 (e2 modD (e2 ixD (eVar 0) (eC (.int 0))) (eVar 1)))
    (sSeq (sSt (e2 fdivD (e2 ixD (eVar 0) (eC (.int 0))) (eVar 1)) (eVar 0) (eC (.int 0)))
    (sRet (eVar 2)))) sNext))
    (sSeq (sSet 3 (eC (.int 0)))
    (sSeq (sSet 4 (eC (.int 1)))
    (sSeq (sFgt [4] (whileD [] (eTB (e2 ltD (eVar 4) (eVar 1))) b_law_take_1))
    (sRet (e2 modD (eVar 3) (eVar 1)))))))
noncomputable def F_law_take : List D → Sto → Res D := runD .frz 5 b_law_take
theorem k_law_take (T : Bt K mg) (Ee : Er K mg cl) (Kk : Kl K mg cl) (I : DefIn K mg "_law_take" s_law_take ["_law_bag_here", "_law_many"])  : DefOk P w K mg base cl "_law_take" 1 ["_law_bag_here", "_law_many"] F_law_take := by
  refine def_ok (k := 0) I c_law_take fun f cdv A outer s H E hr => ?_
  have nd := c_law_take.nd
  have tk : L2N.Takes (cxOf (L2N.CX P w) P w K mg base ["_law_bag_here", "_law_many", "_law_digit", "_law_found", "_law_room"] "_law_take" (defScope s_law_take) f cdv A outer s H E) (fun c d _ H => E c d H)   := L2N.takes_of rfl rfl rfl rfl
  have hp : PassesOwn (model P w) (cxOf (L2N.CX P w) P w K mg base ["_law_bag_here", "_law_many", "_law_digit", "_law_found", "_law_room"] "_law_take" (defScope s_law_take) f cdv A outer s H E).A (cxOf (L2N.CX P w) P w K mg base ["_law_bag_here", "_law_many", "_law_digit", "_law_found", "_law_room"] "_law_take" (defScope s_law_take) f cdv A outer s H E).env (cxOf (L2N.CX P w) P w K mg base ["_law_bag_here", "_law_many", "_law_digit", "_law_found", "_law_room"] "_law_take" (defScope s_law_take) f cdv A outer s H E).xe := passes_of rfl
  exact (qb_cons (qs_fgt [2] (qs_if (qt_gt (qe_ix hr (qv 0) qe_int) qe_int) (qb_cons (qs_set nd rfl (by first | exact Or.inl rfl | exact Or.inr rfl) (qe_mod (qe_ix hr (qv 0) qe_int) (qv 1)))
    (qb_cons (qs_st hr (qe_fdiv (qe_ix hr (qv 0) qe_int) (qv 1)) (qv 0) qe_int)
    (qb_one (qs_ret (qv 2))))) qb_nil))
    (qb_cons (qs_set nd rfl (by first | exact Or.inl rfl | exact Or.inr rfl) qe_int)
    (qb_cons (qs_set nd rfl (by first | exact Or.inl rfl | exact Or.inr rfl) qe_int)
    (qb_cons (qs_fgt [4] (qs_while [] hp (qt_lt (qv 4) (qv 1))
    (qb_cons (qs_st hr (qe_mod (qe_mul (qe_ix hr (qv 0) qe_int) qe_int) qe_int) (qv 0) qe_int)
    (qb_cons (qs_set nd rfl (by first | exact Or.inl rfl | exact Or.inr rfl) (qe_add (qe_mul (qv 3) qe_int) (qe_mod (qe_mod (qe_pow (qe_ix hr (qv 0) qe_int) qe_int) qe_int) qe_int)))
    (qb_one (qs_set nd rfl (by first | exact Or.inl rfl | exact Or.inr rfl) (qe_mul (qv 4) qe_int)))))))
    (qb_one (qs_ret (qe_mod (qv 3) (qv 1))))))))

abbrev s_law_book : Stmt := topS 46
theorem c_law_book : FnScope ["_law_bag_here", "_law_walks", "_law_street", "_law_k", "_law_walk", "_law_j", "_law_low", "_law_many", "_law_way"] ["_law_bag_here"] (defScope s_law_book) := ⟨rfl, rfl, rfl, by decide +kernel, rfl, by decide +kernel, by decide +kernel⟩
noncomputable def b_law_book_1 : Stm := (sSeq (sSet 6 (e2 addD (eC (.int 1)) (eFn F_law_take [(eVar 0), (e2 ixD (eAno (nLst [(eC (.int 3)), (eC (.int 9)), (e2 powD (eC (.int 10)) (eC (.int 36)))])) (eFn F_law_take [(eVar 0), (eC (.int 3))]))])))
    (sSeq (sSet 7 (eFn F_law_take [(eVar 0), (e2 ixD (eAno (nLst [(eC (.int 3)), (eC (.int 5)), (e2 powD (eC (.int 10)) (eC (.int 36)))])) (eFn F_law_take [(eVar 0), (eC (.int 3))]))]))
    (sSeq (sSet 8 (eFn F_law_take [(eVar 0), (eC (.int 4))]))
    (sSeq (sIf (eTB (e2 (eqD false) (eVar 8) (eC (.int 0)))) (sExpr (eM "list" appD (eVar 4) [(eTup [(eVar 2), (eVar 6), (e2 addD (eVar 6) (eVar 7)), (eC (.int 1))])])) (sIf (eTB (e2 (eqD false) (eVar 8) (eC (.int 1)))) (sExpr (eM "list" appD (eVar 4) [(eTup [(eVar 2), (e2 addD (eVar 6) (eVar 7)), (eVar 6), (e1 negD (eC (.int 1)))])])) (sSeq (sExpr (eM "list" appD (eVar 4) [(eTup [(eVar 2), (eVar 6), (e2 addD (eVar 6) (e2 mulD (eC (.int 2)) (eVar 7))), (eC (.int 2))])]))
    (sExpr (eM "list" appD (eVar 4) [(eTup [(eVar 2), (e2 addD (e2 addD (eVar 6) (eC (.int 1))) (e2 mulD (eC (.int 2)) (eVar 7))), (e2 addD (eVar 6) (eC (.int 1))), (e1 negD (eC (.int 2)))])])))))
    (sSet 2 (e2 addD (e2 addD (eVar 2) (eC (.int 1))) (eFn F_law_take [(eVar 0), (eC (.int 2))])))))))
noncomputable def b_law_book_2 : Stm := (sSeq (sSet 4 (eNew (nLst [])))
    (sSeq (sFgt [5, 6, 7, 8] (sFor [5, 6, 7, 8] (.nm 5) (iR1 (eFn F_law_take [(eVar 0), (eC (.int 3))])) b_law_book_1))
    (sExpr (eM "list" appD (eVar 1) [(eCall tupD [(eVar 4)])]))))
noncomputable def b_law_book : Stm := (sSeq (sSet 1 (eNew (nLst [])))
    (sSeq (sSet 2 (eFn F_law_take [(eVar 0), (eC (.int 5))]))
    (sSeq (sFgt [2, 3, 4, 5, 6, 7, 8] (sFor [3, 4, 5, 6, 7, 8] (.nm 3) (iR1 (e2 addD (eC (.int 1)) (eFn F_law_take [(eVar 0), (eC (.int 3))]))) b_law_book_2))
    (sRet (eCall tupD [(eVar 1)])))))
noncomputable def F_law_book : List D → Sto → Res D := runD .frz 9 b_law_book
theorem k_law_book (T : Bt K mg) (Ee : Er K mg cl) (Kk : Kl K mg cl) (I : DefIn K mg "_law_book" s_law_book ["_law_bag_here"]) (G_law_take : DefOk P w K mg base cl "_law_take" 1 ["_law_bag_here", "_law_many"] F_law_take) : DefOk P w K mg base cl "_law_book" 2 ["_law_bag_here"] F_law_book := by
  refine def_ok (k := 1) I c_law_book fun f cdv A outer s H E hr => ?_
  have nd := c_law_book.nd
  have tk : L2N.Takes (cxOf (L2N.CX P w) P w K mg base ["_law_bag_here", "_law_walks", "_law_street", "_law_k", "_law_walk", "_law_j", "_law_low", "_law_many", "_law_way"] "_law_book" (defScope s_law_book) f cdv A outer s H E) (fun c d _ H => E c d H)   := L2N.takes_of rfl rfl rfl rfl
  have hp : PassesOwn (model P w) (cxOf (L2N.CX P w) P w K mg base ["_law_bag_here", "_law_walks", "_law_street", "_law_k", "_law_walk", "_law_j", "_law_low", "_law_many", "_law_way"] "_law_book" (defScope s_law_book) f cdv A outer s H E).A (cxOf (L2N.CX P w) P w K mg base ["_law_bag_here", "_law_walks", "_law_street", "_law_k", "_law_walk", "_law_j", "_law_low", "_law_many", "_law_way"] "_law_book" (defScope s_law_book) f cdv A outer s H E).env (cxOf (L2N.CX P w) P w K mg base ["_law_bag_here", "_law_walks", "_law_street", "_law_k", "_law_walk", "_law_j", "_law_low", "_law_many", "_law_way"] "_law_book" (defScope s_law_book) f cdv A outer s H E).xe := passes_of rfl
  exact (qb_cons (qs_set nd rfl (by first | exact Or.inl rfl | exact Or.inr rfl) (qe_new (qn_lst qa_nil)))
    (qb_cons (qs_set nd rfl (by first | exact Or.inl rfl | exact Or.inr rfl) (qe_fn (G_law_take.mono (by decide)) hr (by rfl) tk (qa_cons (qv 0) (qa_cons qe_int qa_nil))))
    (qb_cons (qs_fgt [2, 3, 4, 5, 6, 7, 8] (qs_for [3, 4, 5, 6, 7, 8] hp rfl (qi_r1 (by rfl) T.range (qe_add qe_int (qe_fn (G_law_take.mono (by decide)) hr (by rfl) tk (qa_cons (qv 0) (qa_cons qe_int qa_nil))))) (qg_nm nd rfl (by first | exact Or.inl rfl | exact Or.inr rfl))
    (qb_cons (qs_set nd rfl (by first | exact Or.inl rfl | exact Or.inr rfl) (qe_new (qn_lst qa_nil)))
    (qb_cons (qs_fgt [5, 6, 7, 8] (qs_for [5, 6, 7, 8] hp rfl (qi_r1 (by rfl) T.range (qe_fn (G_law_take.mono (by decide)) hr (by rfl) tk (qa_cons (qv 0) (qa_cons qe_int qa_nil)))) (qg_nm nd rfl (by first | exact Or.inl rfl | exact Or.inr rfl))
    (qb_cons (qs_set nd rfl (by first | exact Or.inl rfl | exact Or.inr rfl) (qe_add qe_int (qe_fn (G_law_take.mono (by decide)) hr (by rfl) tk (qa_cons (qv 0) (qa_cons (qe_ix hr (qe_ano (qn_lst (qa_cons qe_int (qa_cons qe_int (qa_cons (qe_pow qe_int qe_int) qa_nil))))) (qe_fn (G_law_take.mono (by decide)) hr (by rfl) tk (qa_cons (qv 0) (qa_cons qe_int qa_nil)))) qa_nil)))))
    (qb_cons (qs_set nd rfl (by first | exact Or.inl rfl | exact Or.inr rfl) (qe_fn (G_law_take.mono (by decide)) hr (by rfl) tk (qa_cons (qv 0) (qa_cons (qe_ix hr (qe_ano (qn_lst (qa_cons qe_int (qa_cons qe_int (qa_cons (qe_pow qe_int qe_int) qa_nil))))) (qe_fn (G_law_take.mono (by decide)) hr (by rfl) tk (qa_cons (qv 0) (qa_cons qe_int qa_nil)))) qa_nil))))
    (qb_cons (qs_set nd rfl (by first | exact Or.inl rfl | exact Or.inr rfl) (qe_fn (G_law_take.mono (by decide)) hr (by rfl) tk (qa_cons (qv 0) (qa_cons qe_int qa_nil))))
    (qb_cons (qs_if (qt_eq hr (qv 8) qe_int) (qb_one (qs_expr (qe_append (qv 4) (qe_tup (qa_cons (qv 2) (qa_cons (qv 6) (qa_cons (qe_add (qv 6) (qv 7)) (qa_cons qe_int qa_nil)))))))) (qb_one (qs_if (qt_eq hr (qv 8) qe_int) (qb_one (qs_expr (qe_append (qv 4) (qe_tup (qa_cons (qv 2) (qa_cons (qe_add (qv 6) (qv 7)) (qa_cons (qv 6) (qa_cons (qe_neg qe_int) qa_nil)))))))) (qb_cons (qs_expr (qe_append (qv 4) (qe_tup (qa_cons (qv 2) (qa_cons (qv 6) (qa_cons (qe_add (qv 6) (qe_mul qe_int (qv 7))) (qa_cons qe_int qa_nil)))))))
    (qb_one (qs_expr (qe_append (qv 4) (qe_tup (qa_cons (qv 2) (qa_cons (qe_add (qe_add (qv 6) qe_int) (qe_mul qe_int (qv 7))) (qa_cons (qe_add (qv 6) qe_int) (qa_cons (qe_neg qe_int) qa_nil))))))))))))
    (qb_one (qs_set nd rfl (by first | exact Or.inl rfl | exact Or.inr rfl) (qe_add (qe_add (qv 2) qe_int) (qe_fn (G_law_take.mono (by decide)) hr (by rfl) tk (qa_cons (qv 0) (qa_cons qe_int qa_nil))))))))))))
    (qb_one (qs_expr (qe_append (qv 1) (qe_tuple (by rfl) T.tuple (qa_cons (qv 4) qa_nil)))))))))
    (qb_one (qs_ret (qe_tuple (by rfl) T.tuple (qa_cons (qv 1) qa_nil)))))))

abbrev s_law_opened : Stmt := topS 53
theorem c_law_opened : FnScope ["_law_book_here", "_law_state"] ["_law_book_here"] (defScope s_law_opened) := ⟨rfl, rfl, rfl, by decide +kernel, rfl, by decide +kernel, by decide +kernel⟩
noncomputable def b_law_opened : Stm := (sSeq (sSet 1 (eNew (nDctS ["book", "orders", "day", "hand", "held", "astray", "unread", "many"] [(eVar 0), (eTup []), (eC (.int 0)), (eTup []), (eTup []), (eTup []), (eTup []), (eC (.int 0))])))
    (sSeq (sSt (eTup []) (eVar 1) (eC (.str "bundled")))
    (sSeq (sSt (eC (.int 0)) (eVar 1) (eC (.str "gone")))
    (sRet (eVar 1)))))
noncomputable def F_law_opened : List D → Sto → Res D := runD .frz 2 b_law_opened
theorem k_law_opened (T : Bt K mg) (Ee : Er K mg cl) (Kk : Kl K mg cl) (I : DefIn K mg "_law_opened" s_law_opened ["_law_book_here"])  : DefOk P w K mg base cl "_law_opened" 1 ["_law_book_here"] F_law_opened := by
  refine def_ok (k := 0) I c_law_opened fun f cdv A outer s H E hr => ?_
  have nd := c_law_opened.nd
  have tk : L2N.Takes (cxOf (L2N.CX P w) P w K mg base ["_law_book_here", "_law_state"] "_law_opened" (defScope s_law_opened) f cdv A outer s H E) (fun c d _ H => E c d H)   := L2N.takes_of rfl rfl rfl rfl
  have hp : PassesOwn (model P w) (cxOf (L2N.CX P w) P w K mg base ["_law_book_here", "_law_state"] "_law_opened" (defScope s_law_opened) f cdv A outer s H E).A (cxOf (L2N.CX P w) P w K mg base ["_law_book_here", "_law_state"] "_law_opened" (defScope s_law_opened) f cdv A outer s H E).env (cxOf (L2N.CX P w) P w K mg base ["_law_book_here", "_law_state"] "_law_opened" (defScope s_law_opened) f cdv A outer s H E).xe := passes_of rfl
  exact (qb_cons (qs_set nd rfl (by first | exact Or.inl rfl | exact Or.inr rfl) (qe_new (qn_dctS (l := [("book", (eVar 0)), ("orders", (eTup [])), ("day", (eC (.int 0))), ("hand", (eTup [])), ("held", (eTup [])), ("astray", (eTup [])), ("unread", (eTup [])), ("many", (eC (.int 0)))]) (qps_cons (qv 0) (qps_cons (qe_tup qa_nil) (qps_cons qe_int (qps_cons (qe_tup qa_nil) (qps_cons (qe_tup qa_nil) (qps_cons (qe_tup qa_nil) (qps_cons (qe_tup qa_nil) (qps_cons qe_int qps_nil)))))))))))
    (qb_cons (qs_st hr (qe_tup qa_nil) (qv 1) qe_str)
    (qb_cons (qs_st hr qe_int (qv 1) qe_str)
    (qb_one (qs_ret (qv 1))))))

abbrev s_law_counts : Stmt := topS 54
theorem c_law_counts : FnScope ["_law_state", "_law_found", "_law_word", "_law_row"] ["_law_state"] (defScope s_law_counts) := ⟨rfl, rfl, rfl, by decide +kernel, rfl, by decide +kernel, by decide +kernel⟩
noncomputable def b_law_counts_1 : Stm := (sExpr (eM "list" appD (eVar 1) [(eCall (intsD fun ns => .int ns.sum) [(eAno (nLc [3] (.nm 3) (iS (e2 ixD (eVar 0) (eVar 2))) tYesD (e2 ixD (eVar 3) (e1 negD (eC (.int 1))))))])]))
noncomputable def b_law_counts : Stm := (sSeq (sSet 1 (eNew (nLst [])))
    (sSeq (sFgt [2] (sFor [2] (.nm 2) (iS (eTup [(eC (.str "hand")), (eC (.str "held")), (eC (.str "astray")), (eC (.str "unread")), (eC (.str "bundled"))])) b_law_counts_1))
    (sSeq (sExpr (eM "list" appD (eVar 1) [(e2 ixD (eVar 0) (eC (.str "gone")))]))
    (sRet (eCall tupD [(e2 addD (eAno (nLst [(eCall (intsD fun ns => .int ns.sum) [(eVar 1)])])) (eVar 1))])))))
noncomputable def F_law_counts : List D → Sto → Res D := runD .frz 4 b_law_counts
theorem k_law_counts (T : Bt K mg) (Ee : Er K mg cl) (Kk : Kl K mg cl) (I : DefIn K mg "_law_counts" s_law_counts ["_law_state"])  : DefOk P w K mg base cl "_law_counts" 1 ["_law_state"] F_law_counts := by
  refine def_ok (k := 0) I c_law_counts fun f cdv A outer s H E hr => ?_
  have nd := c_law_counts.nd
  have tk : L2N.Takes (cxOf (L2N.CX P w) P w K mg base ["_law_state", "_law_found", "_law_word", "_law_row"] "_law_counts" (defScope s_law_counts) f cdv A outer s H E) (fun c d _ H => E c d H)   := L2N.takes_of rfl rfl rfl rfl
  have hp : PassesOwn (model P w) (cxOf (L2N.CX P w) P w K mg base ["_law_state", "_law_found", "_law_word", "_law_row"] "_law_counts" (defScope s_law_counts) f cdv A outer s H E).A (cxOf (L2N.CX P w) P w K mg base ["_law_state", "_law_found", "_law_word", "_law_row"] "_law_counts" (defScope s_law_counts) f cdv A outer s H E).env (cxOf (L2N.CX P w) P w K mg base ["_law_state", "_law_found", "_law_word", "_law_row"] "_law_counts" (defScope s_law_counts) f cdv A outer s H E).xe := passes_of rfl
  exact (qb_cons (qs_set nd rfl (by first | exact Or.inl rfl | exact Or.inr rfl) (qe_new (qn_lst qa_nil)))
    (qb_cons (qs_fgt [2] (qs_for [2] hp rfl (qi_s (qe_tup (qa_cons qe_str (qa_cons qe_str (qa_cons qe_str (qa_cons qe_str (qa_cons qe_str qa_nil))))))) (qg_nm nd rfl (by first | exact Or.inl rfl | exact Or.inr rfl))
    (qb_one (qs_expr (qe_append (qv 1) (qe_sum rfl (by rfl) T.sum (qa_cons (qe_ano (qn_lc (own := [("_law_row", 3)]) rfl nd (qi_s (qe_ix hr (qv 0) (qv 2))) (blkOk_by (by rfl)) (by decide) (fun _ _ _ _ _ => (qg_nm nd rfl (by first | exact Or.inl rfl | exact Or.inr rfl))) (fun _ _ _ _ _ => qts_nil) (fun _ _ _ _ _ => (qe_ix hr (qv 3) (qe_neg qe_int))))) qa_nil)))))))
    (qb_cons (qs_expr (qe_append (qv 1) (qe_ix hr (qv 0) qe_str)))
    (qb_one (qs_ret (qe_tuple (by rfl) T.tuple (qa_cons (qe_add (qe_ano (qn_lst (qa_cons (qe_sum rfl (by rfl) T.sum (qa_cons (qv 1) qa_nil)) qa_nil))) (qv 1)) qa_nil)))))))

abbrev s_law_shows : Stmt := topS 55
theorem c_law_shows : FnScope ["_law_office", "_law_state", "_law_told", "_law_wanted"] ["_law_office", "_law_state"] (defScope s_law_shows) := ⟨rfl, rfl, rfl, by decide +kernel, rfl, by decide +kernel, by decide +kernel⟩
noncomputable def b_law_shows : Stm := (sSeq (sSet 2 (eTup [(eMeth "Office" "day" FOffice_day (eVar 0) []), (eMeth "Office" "orders" FOffice_orders (eVar 0) []), (eMeth "Office" "hand" FOffice_hand (eVar 0) []), (eMeth "Office" "held" FOffice_held (eVar 0) []), (eMeth "Office" "astray" FOffice_astray (eVar 0) []), (eMeth "Office" "unreadable" FOffice_unreadable (eVar 0) [])]))
    (sSeq (sSet 3 (eTup [(e2 ixD (eVar 1) (eC (.str "day"))), (e2 ixD (eVar 1) (eC (.str "orders"))), (e2 ixD (eVar 1) (eC (.str "hand"))), (e2 ixD (eVar 1) (eC (.str "held"))), (e2 ixD (eVar 1) (eC (.str "astray"))), (e2 ixD (eVar 1) (eC (.str "unread")))]))
    (sRet (eAndD (e2 (eqD false) (eVar 2) (eVar 3)) (eAndD (e2 (eqD false) (eMeth "Office" "bundled" FOffice_bundled (eVar 0) []) (e2 ixD (eVar 1) (eC (.str "bundled")))) (e2 (eqD false) (eMeth "Office" "counts" FOffice_counts (eVar 0) []) (eFn F_law_counts [(eVar 1)])))))))
noncomputable def F_law_shows : List D → Sto → Res D := runD .frz 4 b_law_shows
theorem k_law_shows (T : Bt K mg) (Ee : Er K mg cl) (Kk : Kl K mg cl) (I : DefIn K mg "_law_shows" s_law_shows ["_law_office", "_law_state"]) (GOffice_day : MethOk P w K mg base cl "Office" "day" 1 ["self"] FOffice_day) (GOffice_orders : MethOk P w K mg base cl "Office" "orders" 1 ["self"] FOffice_orders) (GOffice_hand : MethOk P w K mg base cl "Office" "hand" 1 ["self"] FOffice_hand) (GOffice_held : MethOk P w K mg base cl "Office" "held" 1 ["self"] FOffice_held) (GOffice_astray : MethOk P w K mg base cl "Office" "astray" 1 ["self"] FOffice_astray) (GOffice_unreadable : MethOk P w K mg base cl "Office" "unreadable" 1 ["self"] FOffice_unreadable) (GOffice_bundled : MethOk P w K mg base cl "Office" "bundled" 1 ["self"] FOffice_bundled) (GOffice_counts : MethOk P w K mg base cl "Office" "counts" 2 ["self"] FOffice_counts) (G_law_counts : DefOk P w K mg base cl "_law_counts" 1 ["_law_state"] F_law_counts) : DefOk P w K mg base cl "_law_shows" 3 ["_law_office", "_law_state"] F_law_shows := by
  refine def_ok (k := 2) I c_law_shows fun f cdv A outer s H E hr => ?_
  have nd := c_law_shows.nd
  have tk : L2N.Takes (cxOf (L2N.CX P w) P w K mg base ["_law_office", "_law_state", "_law_told", "_law_wanted"] "_law_shows" (defScope s_law_shows) f cdv A outer s H E) (fun c d _ H => E c d H)   := L2N.takes_of rfl rfl rfl rfl
  have hp : PassesOwn (model P w) (cxOf (L2N.CX P w) P w K mg base ["_law_office", "_law_state", "_law_told", "_law_wanted"] "_law_shows" (defScope s_law_shows) f cdv A outer s H E).A (cxOf (L2N.CX P w) P w K mg base ["_law_office", "_law_state", "_law_told", "_law_wanted"] "_law_shows" (defScope s_law_shows) f cdv A outer s H E).env (cxOf (L2N.CX P w) P w K mg base ["_law_office", "_law_state", "_law_told", "_law_wanted"] "_law_shows" (defScope s_law_shows) f cdv A outer s H E).xe := passes_of rfl
  exact (qb_cons (qs_set nd rfl (by first | exact Or.inl rfl | exact Or.inr rfl) (qe_tup (qa_cons (qe_meth0 Kk.c_Office (GOffice_day.mono (by decide)) hr tk (qv 0)) (qa_cons (qe_meth0 Kk.c_Office (GOffice_orders.mono (by decide)) hr tk (qv 0)) (qa_cons (qe_meth0 Kk.c_Office (GOffice_hand.mono (by decide)) hr tk (qv 0)) (qa_cons (qe_meth0 Kk.c_Office (GOffice_held.mono (by decide)) hr tk (qv 0)) (qa_cons (qe_meth0 Kk.c_Office (GOffice_astray.mono (by decide)) hr tk (qv 0)) (qa_cons (qe_meth0 Kk.c_Office (GOffice_unreadable.mono (by decide)) hr tk (qv 0)) qa_nil))))))))
    (qb_cons (qs_set nd rfl (by first | exact Or.inl rfl | exact Or.inr rfl) (qe_tup (qa_cons (qe_ix hr (qv 1) qe_str) (qa_cons (qe_ix hr (qv 1) qe_str) (qa_cons (qe_ix hr (qv 1) qe_str) (qa_cons (qe_ix hr (qv 1) qe_str) (qa_cons (qe_ix hr (qv 1) qe_str) (qa_cons (qe_ix hr (qv 1) qe_str) qa_nil))))))))
    (qb_one (qs_ret (qe_and (qe_eq hr (qv 2) (qv 3)) (qe_and (qe_eq hr (qe_meth0 Kk.c_Office (GOffice_bundled.mono (by decide)) hr tk (qv 0)) (qe_ix hr (qv 1) qe_str)) (qe_one (qe_eq hr (qe_meth0 Kk.c_Office (GOffice_counts.mono (by decide)) hr tk (qv 0)) (qe_fn (G_law_counts.mono (by decide)) hr (by rfl) tk (qa_cons (qv 1) qa_nil))))))))))

abbrev s_law_wrong : Stmt := topS 56
theorem c_law_wrong : FnScope ["_law_bag_here", "_law_book_here", "_law_walk", "_law_way", "_law_wrong_here"] ["_law_bag_here", "_law_book_here"] (defScope s_law_wrong) := ⟨rfl, rfl, rfl, by decide +kernel, rfl, by decide +kernel, by decide +kernel⟩
noncomputable def b_law_wrong : Stm := (sSeq (sSet 2 (e2 addD (e2 ixD (eVar 1) (e1 negD (eC (.int 1)))) (eTup [(eTup [(eC (.int 30)), (eC (.int 5)), (eC (.int 9)), (eC (.int 2))])])))
    (sSeq (sSet 3 (eFn F_law_take [(eVar 0), (eC (.int 9))]))
    (sSeq (sSet 4 (eNew (nLst [(eTup [(eC (.int 30)), (eC (.int 8)), (eC (.int 8)), (eC (.int 1))]), (eTup [(eC (.int 30)), (eC (.int 7)), (eC (.int 7)), (e1 negD (eC (.int 2)))]), (eTup [(eC (.int 31)), (eC (.int 1)), (eC (.int 2)), (eC (.int 1))]), (eTup [(eC (.int 30)), (eC (.int 20)), (eC (.int 23)), (eC (.int 3))]), (eTup [(eC (.int 30)), (eC (.int 20)), (eC (.int 23)), (eC (.int 2))]), (eTup [(eC (.int 30)), (eC (.int 0)), (eC (.int 4)), (eC (.int 1))])])))
    (sSeq (sExpr (eM "list" appD (eVar 4) [(eTup [(eC (.int 30)), (eC (.int 9)), (eC (.int 5)), (eC (.int 2))])]))
    (sSeq (sIf (eTB (e2 ltD (eVar 3) (eC (.int 7)))) (sSeq (sSet 3 (e2 addD (eVar 3) (eCall int1D [(e2 (eqD false) (eVar 3) (eC (.int 0)))])))
    (sRet (e2 addD (eSl (eVar 1) pN (pE (e1 negD (eC (.int 1))))) (eTup [(e2 addD (eVar 2) (eTup [(e2 ixD (eVar 4) (eVar 3))]))])))) sNext)
    (sRet (e2 ixD (eAno (nLst [(eAno (nListOf (eVar 1))), (eTup [(eVar 1), (eC (.bl true))])])) (e2 subD (eVar 3) (eC (.int 7))))))))))
noncomputable def F_law_wrong : List D → Sto → Res D := runD .frz 5 b_law_wrong
theorem k_law_wrong (T : Bt K mg) (Ee : Er K mg cl) (Kk : Kl K mg cl) (I : DefIn K mg "_law_wrong" s_law_wrong ["_law_bag_here", "_law_book_here"]) (G_law_take : DefOk P w K mg base cl "_law_take" 1 ["_law_bag_here", "_law_many"] F_law_take) : DefOk P w K mg base cl "_law_wrong" 2 ["_law_bag_here", "_law_book_here"] F_law_wrong := by
  refine def_ok (k := 1) I c_law_wrong fun f cdv A outer s H E hr => ?_
  have nd := c_law_wrong.nd
  have tk : L2N.Takes (cxOf (L2N.CX P w) P w K mg base ["_law_bag_here", "_law_book_here", "_law_walk", "_law_way", "_law_wrong_here"] "_law_wrong" (defScope s_law_wrong) f cdv A outer s H E) (fun c d _ H => E c d H)   := L2N.takes_of rfl rfl rfl rfl
  have hp : PassesOwn (model P w) (cxOf (L2N.CX P w) P w K mg base ["_law_bag_here", "_law_book_here", "_law_walk", "_law_way", "_law_wrong_here"] "_law_wrong" (defScope s_law_wrong) f cdv A outer s H E).A (cxOf (L2N.CX P w) P w K mg base ["_law_bag_here", "_law_book_here", "_law_walk", "_law_way", "_law_wrong_here"] "_law_wrong" (defScope s_law_wrong) f cdv A outer s H E).env (cxOf (L2N.CX P w) P w K mg base ["_law_bag_here", "_law_book_here", "_law_walk", "_law_way", "_law_wrong_here"] "_law_wrong" (defScope s_law_wrong) f cdv A outer s H E).xe := passes_of rfl
  exact (qb_cons (qs_set nd rfl (by first | exact Or.inl rfl | exact Or.inr rfl) (qe_add (qe_ix hr (qv 1) (qe_neg qe_int)) (qe_tup (qa_cons (qe_tup (qa_cons qe_int (qa_cons qe_int (qa_cons qe_int (qa_cons qe_int qa_nil))))) qa_nil))))
    (qb_cons (qs_set nd rfl (by first | exact Or.inl rfl | exact Or.inr rfl) (qe_fn (G_law_take.mono (by decide)) hr (by rfl) tk (qa_cons (qv 0) (qa_cons qe_int qa_nil))))
    (qb_cons (qs_set nd rfl (by first | exact Or.inl rfl | exact Or.inr rfl) (qe_new (qn_lst (qa_cons (qe_tup (qa_cons qe_int (qa_cons qe_int (qa_cons qe_int (qa_cons qe_int qa_nil))))) (qa_cons (qe_tup (qa_cons qe_int (qa_cons qe_int (qa_cons qe_int (qa_cons (qe_neg qe_int) qa_nil))))) (qa_cons (qe_tup (qa_cons qe_int (qa_cons qe_int (qa_cons qe_int (qa_cons qe_int qa_nil))))) (qa_cons (qe_tup (qa_cons qe_int (qa_cons qe_int (qa_cons qe_int (qa_cons qe_int qa_nil))))) (qa_cons (qe_tup (qa_cons qe_int (qa_cons qe_int (qa_cons qe_int (qa_cons qe_int qa_nil))))) (qa_cons (qe_tup (qa_cons qe_int (qa_cons qe_int (qa_cons qe_int (qa_cons qe_int qa_nil))))) qa_nil)))))))))
    (qb_cons (qs_expr (qe_append (qv 4) (qe_tup (qa_cons qe_int (qa_cons qe_int (qa_cons qe_int (qa_cons qe_int qa_nil)))))))
    (qb_cons (qs_if (qt_lt (qv 3) qe_int) (qb_cons (qs_set nd rfl (by first | exact Or.inl rfl | exact Or.inr rfl) (qe_add (qv 3) (qe_intOf (by rfl) T.int (qa_cons (qe_eq hr (qv 3) qe_int) qa_nil))))
    (qb_one (qs_ret (qe_add (qe_sl (qv 1) qp_n (qp_e (qe_neg qe_int))) (qe_tup (qa_cons (qe_add (qv 2) (qe_tup (qa_cons (qe_ix hr (qv 4) (qv 3)) qa_nil))) qa_nil)))))) qb_nil)
    (qb_one (qs_ret (qe_ix hr (qe_ano (qn_lst (qa_cons (qe_ano (qn_list (by rfl) T.list (qv 1))) (qa_cons (qe_tup (qa_cons (qv 1) (qa_cons qe_bl qa_nil))) qa_nil)))) (qe_sub (qv 3) qe_int)))))))))

abbrev s_law_no_book : Stmt := topS 57
theorem c_law_no_book : FnScope ["_law_thing", "e"] ["_law_thing"] (defScope s_law_no_book) := ⟨rfl, rfl, rfl, by decide +kernel, rfl, by decide +kernel, by decide +kernel⟩
noncomputable def b_law_no_book : Stm := (sSeq (sTry [("NoBook", true)] 1 (sExpr (eMake "Office" FOffice___init__ [(eVar 0)])) (fun _ => (sRet (eC (.bl true)))))
    (sRet (eC (.bl false))))
noncomputable def F_law_no_book : List D → Sto → Res D := runD .frz 2 b_law_no_book
theorem k_law_no_book (T : Bt K mg) (Ee : Er K mg cl) (Kk : Kl K mg cl) (I : DefIn K mg "_law_no_book" s_law_no_book ["_law_thing"]) (GOffice___init__ : MethOk P w K mg base cl "Office" "__init__" 6 ["self", "book"] FOffice___init__) : DefOk P w K mg base cl "_law_no_book" 8 ["_law_thing"] F_law_no_book := by
  refine def_ok (k := 7) I c_law_no_book fun f cdv A outer s H E hr => ?_
  have nd := c_law_no_book.nd
  have tk : L2N.Takes (cxOf (L2N.CX P w) P w K mg base ["_law_thing", "e"] "_law_no_book" (defScope s_law_no_book) f cdv A outer s H E) (fun c d _ H => E c d H)   := L2N.takes_of rfl rfl rfl rfl
  have hp : PassesOwn (model P w) (cxOf (L2N.CX P w) P w K mg base ["_law_thing", "e"] "_law_no_book" (defScope s_law_no_book) f cdv A outer s H E).A (cxOf (L2N.CX P w) P w K mg base ["_law_thing", "e"] "_law_no_book" (defScope s_law_no_book) f cdv A outer s H E).env (cxOf (L2N.CX P w) P w K mg base ["_law_thing", "e"] "_law_no_book" (defScope s_law_no_book) f cdv A outer s H E).xe := passes_of rfl
  exact (qb_cons (qs_try (ks := [("NoBook", true)]) rfl rfl nd rfl rfl ⟨by rfl, by decide, .inl Ee.c_LetterError.g⟩ tk (fun W0 pn xe tk hp => (qb_one (qs_expr (qe_make (k := 6) Kk.m_Office (GOffice___init__.mono (by decide)) (hr.mono (by decide)) (by rfl) tk (qa_cons (qv 0) qa_nil)))))
    (kc_cons (PySem.W.exm_ref Ee.c_LetterError.b Ee.c_LetterError.d Ee.c_LetterError.t Ee.s_NoBook_LetterError) kc_nil)
    (kc_cons (fun _ => qh_ret fun a oe pn hz hf => (he_and (he_is hz hf List.mem_cons_self Ee.x_NoBook (by rfl) T.isinstance (pv 1) (by rfl) Ee.g_NoBook Ee.i_NoBook_NoBook) (he_and (he_isV hz hf List.mem_cons_self Ee.x_NoBook (by rfl) T.isinstance (pv 1) (by rfl) T.ValueError Ee.v_NoBook) (he_one (he_not (he_isT hz hf List.mem_cons_self Ee.x_NoBook (by rfl) T.isinstance (pv 1) (ca_cons (by rfl) Ee.g_NoOrder (ca_cons (by rfl) Ee.g_NoStop (ca_cons (by rfl) Ee.g_NoPlan ca_nil))) (by decide) (ka_no Ee.i_NoBook_NoOrder (ka_no Ee.i_NoBook_NoStop (ka_no Ee.i_NoBook_NoPlan ka_nil))))))))) kc_nil))
    (qb_one (qs_ret qe_bl)))

abbrev slaw : Stmt := topS 58
theorem claw : FnScope ["_law_script", "_law_k", "_law_bag_here", "_law_book_here", "_law_office", "_law_carrier"] ["_law_script"] (defScope slaw) := ⟨rfl, rfl, rfl, by decide +kernel, rfl, by decide +kernel, by decide +kernel⟩
noncomputable def blaw_1 : Stm := (sIf (eTB (e2 (eqD true) (eMeth "Office" "bundle" FOffice_bundle (eVar 4) [(eVar 5)]) (eTup []))) (sRet (eC (.bl false))) sNext)
noncomputable def blaw_2 : Stm := (sSeq (sSet 2 (eFn F_law_bag [(eVar 0), (eVar 1)]))
    (sSeq (sSet 3 (eFn F_law_book [(eVar 2)]))
    (sSeq (sSet 4 (eMake "Office" FOffice___init__ [(eVar 3)]))
    (sSeq (sIf (tNotD (eTr (eFn F_law_shows [(eVar 4), (eFn F_law_opened [(eVar 3)])]))) (sRet (eC (.bl false))) sNext)
    (sSeq (sFgt [5] (sFor [5] (.nm 5) (iR1 (eCall lenD [(eVar 3)])) blaw_1))
    (sSeq (sIf (tOrD (tNotD (eTr (eFn F_law_no_book [(eFn F_law_wrong [(eVar 2), (eVar 3)])]))) (tOrD (tNotD (eTr (eFn F_law_no_book [(eC .non)]))) (tNotD (eTr (eFn F_law_no_book [(eC (.int 7))]))))) (sRet (eC (.bl false))) sNext)
    (sIf (tNotD (eTr (eFn F_law_shows [(eVar 4), (eFn F_law_opened [(eVar 3)])]))) (sRet (eC (.bl false))) sNext)))))))
noncomputable def blaw : Stm := (sSeq (sFgt [1, 2, 3, 4, 5] (sFor [1, 2, 3, 4, 5] (.nm 1) (iR1 (e2 addD (eC (.int 1)) (eCall (ii2D minI) [(eC (.int 3)), (eCall lenD [(eVar 0)])]))) blaw_2))
    (sRet (eC (.bl true))))
noncomputable def Flaw : List D → Sto → Res D := runD .frz 6 blaw
theorem klaw (T : Bt K mg) (Ee : Er K mg cl) (Kk : Kl K mg cl) (I : DefIn K mg "law" slaw ["_law_script"]) (G_law_bag : DefOk P w K mg base cl "_law_bag" 2 ["_law_script", "_law_at"] F_law_bag) (G_law_book : DefOk P w K mg base cl "_law_book" 2 ["_law_bag_here"] F_law_book) (GOffice___init__ : MethOk P w K mg base cl "Office" "__init__" 6 ["self", "book"] FOffice___init__) (G_law_shows : DefOk P w K mg base cl "_law_shows" 3 ["_law_office", "_law_state"] F_law_shows) (G_law_opened : DefOk P w K mg base cl "_law_opened" 1 ["_law_book_here"] F_law_opened) (GOffice_bundle : MethOk P w K mg base cl "Office" "bundle" 4 ["self", "carrier"] FOffice_bundle) (G_law_no_book : DefOk P w K mg base cl "_law_no_book" 8 ["_law_thing"] F_law_no_book) (G_law_wrong : DefOk P w K mg base cl "_law_wrong" 2 ["_law_bag_here", "_law_book_here"] F_law_wrong) : DefOk P w K mg base cl "law" 9 ["_law_script"] Flaw := by
  refine def_ok (k := 8) I claw fun f cdv A outer s H E hr => ?_
  have nd := claw.nd
  have tk : L2N.Takes (cxOf (L2N.CX P w) P w K mg base ["_law_script", "_law_k", "_law_bag_here", "_law_book_here", "_law_office", "_law_carrier"] "law" (defScope slaw) f cdv A outer s H E) (fun c d _ H => E c d H)   := L2N.takes_of rfl rfl rfl rfl
  have hp : PassesOwn (model P w) (cxOf (L2N.CX P w) P w K mg base ["_law_script", "_law_k", "_law_bag_here", "_law_book_here", "_law_office", "_law_carrier"] "law" (defScope slaw) f cdv A outer s H E).A (cxOf (L2N.CX P w) P w K mg base ["_law_script", "_law_k", "_law_bag_here", "_law_book_here", "_law_office", "_law_carrier"] "law" (defScope slaw) f cdv A outer s H E).env (cxOf (L2N.CX P w) P w K mg base ["_law_script", "_law_k", "_law_bag_here", "_law_book_here", "_law_office", "_law_carrier"] "law" (defScope slaw) f cdv A outer s H E).xe := passes_of rfl
  exact (qb_cons (qs_fgt [1, 2, 3, 4, 5] (qs_for [1, 2, 3, 4, 5] hp rfl (qi_r1 (by rfl) T.range (qe_add qe_int (qe_min2 rfl (by rfl) T.min (qa_cons qe_int (qa_cons (qe_len (by rfl) T.len (qa_cons (qv 0) qa_nil)) qa_nil))))) (qg_nm nd rfl (by first | exact Or.inl rfl | exact Or.inr rfl))
    (qb_cons (qs_set nd rfl (by first | exact Or.inl rfl | exact Or.inr rfl) (qe_fn (G_law_bag.mono (by decide)) hr (by rfl) tk (qa_cons (qv 0) (qa_cons (qv 1) qa_nil))))
    (qb_cons (qs_set nd rfl (by first | exact Or.inl rfl | exact Or.inr rfl) (qe_fn (G_law_book.mono (by decide)) hr (by rfl) tk (qa_cons (qv 2) qa_nil)))
    (qb_cons (qs_set nd rfl (by first | exact Or.inl rfl | exact Or.inr rfl) (qe_make (k := 6) Kk.m_Office (GOffice___init__.mono (by decide)) (hr.mono (by decide)) (by rfl) tk (qa_cons (qv 3) qa_nil)))
    (qb_cons (qs_if (qt_not (qt_val (qe_fn (G_law_shows.mono (by decide)) hr (by rfl) tk (qa_cons (qv 4) (qa_cons (qe_fn (G_law_opened.mono (by decide)) hr (by rfl) tk (qa_cons (qv 3) qa_nil)) qa_nil))))) (qb_one (qs_ret qe_bl)) qb_nil)
    (qb_cons (qs_fgt [5] (qs_for [5] hp rfl (qi_r1 (by rfl) T.range (qe_len (by rfl) T.len (qa_cons (qv 3) qa_nil))) (qg_nm nd rfl (by first | exact Or.inl rfl | exact Or.inr rfl))
    (qb_one (qs_if (qt_ne hr (qe_meth Kk.c_Office (GOffice_bundle.mono (by decide)) hr tk (qv 4) (qa_cons (qv 5) qa_nil)) (qe_tup qa_nil)) (qb_one (qs_ret qe_bl)) qb_nil))))
    (qb_cons (qs_if (PW.pt (qw_or (qt_not (qt_val (qe_fn (G_law_no_book.mono (by decide)) hr (by rfl) tk (qa_cons (qe_fn (G_law_wrong.mono (by decide)) hr (by rfl) tk (qa_cons (qv 2) (qa_cons (qv 3) qa_nil))) qa_nil)))) (qw_or (qt_not (qt_val (qe_fn (G_law_no_book.mono (by decide)) hr (by rfl) tk (qa_cons qe_non qa_nil)))) (qw_or1 (qt_not (qt_val (qe_fn (G_law_no_book.mono (by decide)) hr (by rfl) tk (qa_cons qe_int qa_nil)))))))) (qb_one (qs_ret qe_bl)) qb_nil)
    (qb_one (qs_if (qt_not (qt_val (qe_fn (G_law_shows.mono (by decide)) hr (by rfl) tk (qa_cons (qv 4) (qa_cons (qe_fn (G_law_opened.mono (by decide)) hr (by rfl) tk (qa_cons (qv 3) qa_nil)) qa_nil))))) (qb_one (qs_ret qe_bl)) qb_nil))))))))))
    (qb_one (qs_ret qe_bl)))
end
theorem all_ok {l : PySem.W.OpenLaw} {w : World} {K : PySem.W.Frag} {h : Heap} {mg : Str → Option Value} {fa : Addr} (X : K.In h) (G : h.Ns mainGlobals mg) (hfa : mg "law" = some (.ref fa))
    {AOffice : Addr} (og_Office : PySem.W.nsIn K mainGlobals "Office" = some (some (.ref AOffice)))
    (op_Office : PySem.W.plainGet K AOffice Str.empty = true)
    (od_Office : PySem.W.hasDictIn K AOffice = true)
    (oo_Office : PySem.W.plainOver K AOffice = true)
    (os_Office : PySem.W.findIn K (.ref AOffice) "__setattr__" = some (some (.builtin "object.__setattr__")))
    (om_Office : PySem.W.makesIn K AOffice = true)
    (ok_Office : PySem.W.keepIn K (.ref AOffice) = true)
    (on_Office_in_force : PySem.W.findIn K (.ref AOffice) "in_force" = some none)
    (on_Office_kept : PySem.W.findIn K (.ref AOffice) "kept" = some none)
    (on_Office_left : PySem.W.findIn K (.ref AOffice) "left" = some none)
    (on_Office_loose : PySem.W.findIn K (.ref AOffice) "loose" = some none)
    (on_Office_numbered : PySem.W.findIn K (.ref AOffice) "numbered" = some none)
    (on_Office_sorted_on : PySem.W.findIn K (.ref AOffice) "sorted_on" = some none)
    (on_Office_strays : PySem.W.findIn K (.ref AOffice) "strays" = some none)
    (on_Office_today : PySem.W.findIn K (.ref AOffice) "today" = some none)
    (on_Office_unread : PySem.W.findIn K (.ref AOffice) "unread" = some none)
    (on_Office_walks : PySem.W.findIn K (.ref AOffice) "walks" = some none)
    {f0 : Addr} {od0 an0 : Option Addr} {sl0 : Array (Option Value)} {oc0 kV0 dc0 pm0 cd0 ct0 : Value}
    (a0 : PySem.W.nsIn K mainGlobals "is_whole" = some (some (.ref f0))) (l0 : K.lookup f0 = some ⟨oc0, od0, .func (PySem.W.fnOf "is_whole" "is_whole" (defArgs sis_whole) (defBody sis_whole) (defScope sis_whole) .none kV0 dc0 pm0 an0 cd0 ct0), sl0⟩) (c0 : PySem.W.codeIn K cd0 "is_whole" = true) (k0 : PySem.W.keepIn K (.ref f0) = true)
    {f1 : Addr} {od1 an1 : Option Addr} {sl1 : Array (Option Value)} {oc1 kV1 dc1 pm1 cd1 ct1 : Value}
    (a1 : PySem.W.nsIn K mainGlobals "is_street" = some (some (.ref f1))) (l1 : K.lookup f1 = some ⟨oc1, od1, .func (PySem.W.fnOf "is_street" "is_street" (defArgs sis_street) (defBody sis_street) (defScope sis_street) .none kV1 dc1 pm1 an1 cd1 ct1), sl1⟩) (c1 : PySem.W.codeIn K cd1 "is_street" = true) (k1 : PySem.W.keepIn K (.ref f1) = true)
    {f2 : Addr} {od2 an2 : Option Addr} {sl2 : Array (Option Value)} {oc2 kV2 dc2 pm2 cd2 ct2 : Value}
    (a2 : PySem.W.nsIn K mainGlobals "is_house" = some (some (.ref f2))) (l2 : K.lookup f2 = some ⟨oc2, od2, .func (PySem.W.fnOf "is_house" "is_house" (defArgs sis_house) (defBody sis_house) (defScope sis_house) .none kV2 dc2 pm2 an2 cd2 ct2), sl2⟩) (c2 : PySem.W.codeIn K cd2 "is_house" = true) (k2 : PySem.W.keepIn K (.ref f2) = true)
    {f3 : Addr} {od3 an3 : Option Addr} {sl3 : Array (Option Value)} {oc3 kV3 dc3 pm3 cd3 ct3 : Value}
    (a3 : PySem.W.nsIn K mainGlobals "is_reached" = some (some (.ref f3))) (l3 : K.lookup f3 = some ⟨oc3, od3, .func (PySem.W.fnOf "is_reached" "is_reached" (defArgs sis_reached) (defBody sis_reached) (defScope sis_reached) .none kV3 dc3 pm3 an3 cd3 ct3), sl3⟩) (c3 : PySem.W.codeIn K cd3 "is_reached" = true) (k3 : PySem.W.keepIn K (.ref f3) = true)
    {f4 : Addr} {od4 an4 : Option Addr} {sl4 : Array (Option Value)} {oc4 kV4 dc4 pm4 cd4 ct4 : Value}
    (a4 : PySem.W.nsIn K mainGlobals "is_run" = some (some (.ref f4))) (l4 : K.lookup f4 = some ⟨oc4, od4, .func (PySem.W.fnOf "is_run" "is_run" (defArgs sis_run) (defBody sis_run) (defScope sis_run) .none kV4 dc4 pm4 an4 cd4 ct4), sl4⟩) (c4 : PySem.W.codeIn K cd4 "is_run" = true) (k4 : PySem.W.keepIn K (.ref f4) = true)
    {f5 : Addr} {od5 an5 : Option Addr} {sl5 : Array (Option Value)} {oc5 kV5 dc5 pm5 cd5 ct5 : Value}
    (a5 : PySem.W.nsIn K mainGlobals "houses" = some (some (.ref f5))) (l5 : K.lookup f5 = some ⟨oc5, od5, .func (PySem.W.fnOf "houses" "houses" (defArgs shouses) (defBody shouses) (defScope shouses) .none kV5 dc5 pm5 an5 cd5 ct5), sl5⟩) (c5 : PySem.W.codeIn K cd5 "houses" = true) (k5 : PySem.W.keepIn K (.ref f5) = true)
    {f6 : Addr} {od6 an6 : Option Addr} {sl6 : Array (Option Value)} {oc6 kV6 dc6 pm6 cd6 ct6 : Value}
    (a6 : PySem.W.nsIn K mainGlobals "house_at" = some (some (.ref f6))) (l6 : K.lookup f6 = some ⟨oc6, od6, .func (PySem.W.fnOf "house_at" "house_at" (defArgs shouse_at) (defBody shouse_at) (defScope shouse_at) .none kV6 dc6 pm6 an6 cd6 ct6), sl6⟩) (c6 : PySem.W.codeIn K cd6 "house_at" = true) (k6 : PySem.W.keepIn K (.ref f6) = true)
    {f7 : Addr} {od7 an7 : Option Addr} {sl7 : Array (Option Value)} {oc7 kV7 dc7 pm7 cd7 ct7 : Value}
    (a7 : PySem.W.nsIn K mainGlobals "place_in" = some (some (.ref f7))) (l7 : K.lookup f7 = some ⟨oc7, od7, .func (PySem.W.fnOf "place_in" "place_in" (defArgs splace_in) (defBody splace_in) (defScope splace_in) .none kV7 dc7 pm7 an7 cd7 ct7), sl7⟩) (c7 : PySem.W.codeIn K cd7 "place_in" = true) (k7 : PySem.W.keepIn K (.ref f7) = true)
    {f8 : Addr} {od8 an8 : Option Addr} {sl8 : Array (Option Value)} {oc8 kV8 dc8 pm8 cd8 ct8 : Value}
    (a8 : PySem.W.nsIn K mainGlobals "least_shared" = some (some (.ref f8))) (l8 : K.lookup f8 = some ⟨oc8, od8, .func (PySem.W.fnOf "least_shared" "least_shared" (defArgs sleast_shared) (defBody sleast_shared) (defScope sleast_shared) .none kV8 dc8 pm8 an8 cd8 ct8), sl8⟩) (c8 : PySem.W.codeIn K cd8 "least_shared" = true) (k8 : PySem.W.keepIn K (.ref f8) = true)
    {f9 : Addr} {od9 an9 : Option Addr} {sl9 : Array (Option Value)} {oc9 kV9 dc9 pm9 cd9 ct9 : Value}
    (a9 : PySem.W.nsIn K mainGlobals "are_walks" = some (some (.ref f9))) (l9 : K.lookup f9 = some ⟨oc9, od9, .func (PySem.W.fnOf "are_walks" "are_walks" (defArgs sare_walks) (defBody sare_walks) (defScope sare_walks) .none kV9 dc9 pm9 an9 cd9 ct9), sl9⟩) (c9 : PySem.W.codeIn K cd9 "are_walks" = true) (k9 : PySem.W.keepIn K (.ref f9) = true)
    {f10 : Addr} {od10 an10 : Option Addr} {sl10 : Array (Option Value)} {oc10 kV10 dc10 pm10 cd10 ct10 : Value}
    (a10 : PySem.W.nsIn K mainGlobals "all_runs" = some (some (.ref f10))) (l10 : K.lookup f10 = some ⟨oc10, od10, .func (PySem.W.fnOf "all_runs" "all_runs" (defArgs sall_runs) (defBody sall_runs) (defScope sall_runs) .none kV10 dc10 pm10 an10 cd10 ct10), sl10⟩) (c10 : PySem.W.codeIn K cd10 "all_runs" = true) (k10 : PySem.W.keepIn K (.ref f10) = true)
    {f11 : Addr} {od11 an11 : Option Addr} {sl11 : Array (Option Value)} {oc11 kV11 dc11 pm11 cd11 ct11 : Value}
    (a11 : PySem.W.nsIn K mainGlobals "meeting" = some (some (.ref f11))) (l11 : K.lookup f11 = some ⟨oc11, od11, .func (PySem.W.fnOf "meeting" "meeting" (defArgs smeeting) (defBody smeeting) (defScope smeeting) .none kV11 dc11 pm11 an11 cd11 ct11), sl11⟩) (c11 : PySem.W.codeIn K cd11 "meeting" = true) (k11 : PySem.W.keepIn K (.ref f11) = true)
    {f12 : Addr} {od12 an12 : Option Addr} {sl12 : Array (Option Value)} {oc12 kV12 dc12 pm12 cd12 ct12 : Value}
    (a12 : PySem.W.nsIn K mainGlobals "is_book" = some (some (.ref f12))) (l12 : K.lookup f12 = some ⟨oc12, od12, .func (PySem.W.fnOf "is_book" "is_book" (defArgs sis_book) (defBody sis_book) (defScope sis_book) .none kV12 dc12 pm12 an12 cd12 ct12), sl12⟩) (c12 : PySem.W.codeIn K cd12 "is_book" = true) (k12 : PySem.W.keepIn K (.ref f12) = true)
    {f13 : Addr} {od13 an13 : Option Addr} {sl13 : Array (Option Value)} {oc13 kV13 dc13 pm13 cd13 ct13 : Value}
    (a13 : PySem.W.nsIn K mainGlobals "address_of" = some (some (.ref f13))) (l13 : K.lookup f13 = some ⟨oc13, od13, .func (PySem.W.fnOf "address_of" "address_of" (defArgs saddress_of) (defBody saddress_of) (defScope saddress_of) .none kV13 dc13 pm13 an13 cd13 ct13), sl13⟩) (c13 : PySem.W.codeIn K cd13 "address_of" = true) (k13 : PySem.W.keepIn K (.ref f13) = true)
    {f14 : Addr} {od14 an14 : Option Addr} {sl14 : Array (Option Value)} {oc14 kV14 dc14 pm14 cd14 ct14 : Value}
    (a14 : PySem.W.nsIn K mainGlobals "stops" = some (some (.ref f14))) (l14 : K.lookup f14 = some ⟨oc14, od14, .func (PySem.W.fnOf "stops" "stops" (defArgs sstops) (defBody sstops) (defScope sstops) .none kV14 dc14 pm14 an14 cd14 ct14), sl14⟩) (c14 : PySem.W.codeIn K cd14 "stops" = true) (k14 : PySem.W.keepIn K (.ref f14) = true)
    {f15 : Addr} {od15 an15 : Option Addr} {sl15 : Array (Option Value)} {oc15 kV15 dc15 pm15 cd15 ct15 : Value}
    (a15 : PySem.W.nsIn K mainGlobals "letters_in" = some (some (.ref f15))) (l15 : K.lookup f15 = some ⟨oc15, od15, .func (PySem.W.fnOf "letters_in" "letters_in" (defArgs sletters_in) (defBody sletters_in) (defScope sletters_in) .none kV15 dc15 pm15 an15 cd15 ct15), sl15⟩) (c15 : PySem.W.codeIn K cd15 "letters_in" = true) (k15 : PySem.W.keepIn K (.ref f15) = true)
    {f16 : Addr} {od16 an16 : Option Addr} {sl16 : Array (Option Value)} {oc16 kV16 dc16 pm16 cd16 ct16 : Value}
    (a16 : PySem.W.nsIn K mainGlobals "many_of" = some (some (.ref f16))) (l16 : K.lookup f16 = some ⟨oc16, od16, .func (PySem.W.fnOf "many_of" "many_of" (defArgs smany_of) (defBody smany_of) (defScope smany_of) .none kV16 dc16 pm16 an16 cd16 ct16), sl16⟩) (c16 : PySem.W.codeIn K cd16 "many_of" = true) (k16 : PySem.W.keepIn K (.ref f16) = true)
    {f17 : Addr} {od17 an17 : Option Addr} {sl17 : Array (Option Value)} {oc17 kV17 dc17 pm17 cd17 ct17 : Value}
    (a17 : PySem.W.findIn K (.ref AOffice) "__init__" = some (some (.ref f17))) (i17 : PySem.W.isFn K (.ref f17) = true) (l17 : K.lookup f17 = some ⟨oc17, od17, .func (PySem.W.fnOf "__init__" "Office.__init__" (defArgs sOffice___init__) (defBody sOffice___init__) (defScope sOffice___init__) .none kV17 dc17 pm17 an17 cd17 ct17), sl17⟩) (c17 : PySem.W.codeIn K cd17 "Office.__init__" = true) (k17 : PySem.W.keepIn K (.ref f17) = true)
    {f18 : Addr} {od18 an18 : Option Addr} {sl18 : Array (Option Value)} {oc18 kV18 dc18 pm18 cd18 ct18 : Value}
    (a18 : PySem.W.findIn K (.ref AOffice) "bundle" = some (some (.ref f18))) (i18 : PySem.W.isFn K (.ref f18) = true) (l18 : K.lookup f18 = some ⟨oc18, od18, .func (PySem.W.fnOf "bundle" "Office.bundle" (defArgs sOffice_bundle) (defBody sOffice_bundle) (defScope sOffice_bundle) .none kV18 dc18 pm18 an18 cd18 ct18), sl18⟩) (c18 : PySem.W.codeIn K cd18 "Office.bundle" = true) (k18 : PySem.W.keepIn K (.ref f18) = true)
    {f19 : Addr} {od19 an19 : Option Addr} {sl19 : Array (Option Value)} {oc19 kV19 dc19 pm19 cd19 ct19 : Value}
    (a19 : PySem.W.findIn K (.ref AOffice) "day" = some (some (.ref f19))) (i19 : PySem.W.isFn K (.ref f19) = true) (l19 : K.lookup f19 = some ⟨oc19, od19, .func (PySem.W.fnOf "day" "Office.day" (defArgs sOffice_day) (defBody sOffice_day) (defScope sOffice_day) .none kV19 dc19 pm19 an19 cd19 ct19), sl19⟩) (c19 : PySem.W.codeIn K cd19 "Office.day" = true) (k19 : PySem.W.keepIn K (.ref f19) = true)
    {f20 : Addr} {od20 an20 : Option Addr} {sl20 : Array (Option Value)} {oc20 kV20 dc20 pm20 cd20 ct20 : Value}
    (a20 : PySem.W.findIn K (.ref AOffice) "orders" = some (some (.ref f20))) (i20 : PySem.W.isFn K (.ref f20) = true) (l20 : K.lookup f20 = some ⟨oc20, od20, .func (PySem.W.fnOf "orders" "Office.orders" (defArgs sOffice_orders) (defBody sOffice_orders) (defScope sOffice_orders) .none kV20 dc20 pm20 an20 cd20 ct20), sl20⟩) (c20 : PySem.W.codeIn K cd20 "Office.orders" = true) (k20 : PySem.W.keepIn K (.ref f20) = true)
    {f21 : Addr} {od21 an21 : Option Addr} {sl21 : Array (Option Value)} {oc21 kV21 dc21 pm21 cd21 ct21 : Value}
    (a21 : PySem.W.findIn K (.ref AOffice) "hand" = some (some (.ref f21))) (i21 : PySem.W.isFn K (.ref f21) = true) (l21 : K.lookup f21 = some ⟨oc21, od21, .func (PySem.W.fnOf "hand" "Office.hand" (defArgs sOffice_hand) (defBody sOffice_hand) (defScope sOffice_hand) .none kV21 dc21 pm21 an21 cd21 ct21), sl21⟩) (c21 : PySem.W.codeIn K cd21 "Office.hand" = true) (k21 : PySem.W.keepIn K (.ref f21) = true)
    {f22 : Addr} {od22 an22 : Option Addr} {sl22 : Array (Option Value)} {oc22 kV22 dc22 pm22 cd22 ct22 : Value}
    (a22 : PySem.W.findIn K (.ref AOffice) "held" = some (some (.ref f22))) (i22 : PySem.W.isFn K (.ref f22) = true) (l22 : K.lookup f22 = some ⟨oc22, od22, .func (PySem.W.fnOf "held" "Office.held" (defArgs sOffice_held) (defBody sOffice_held) (defScope sOffice_held) .none kV22 dc22 pm22 an22 cd22 ct22), sl22⟩) (c22 : PySem.W.codeIn K cd22 "Office.held" = true) (k22 : PySem.W.keepIn K (.ref f22) = true)
    {f23 : Addr} {od23 an23 : Option Addr} {sl23 : Array (Option Value)} {oc23 kV23 dc23 pm23 cd23 ct23 : Value}
    (a23 : PySem.W.findIn K (.ref AOffice) "astray" = some (some (.ref f23))) (i23 : PySem.W.isFn K (.ref f23) = true) (l23 : K.lookup f23 = some ⟨oc23, od23, .func (PySem.W.fnOf "astray" "Office.astray" (defArgs sOffice_astray) (defBody sOffice_astray) (defScope sOffice_astray) .none kV23 dc23 pm23 an23 cd23 ct23), sl23⟩) (c23 : PySem.W.codeIn K cd23 "Office.astray" = true) (k23 : PySem.W.keepIn K (.ref f23) = true)
    {f24 : Addr} {od24 an24 : Option Addr} {sl24 : Array (Option Value)} {oc24 kV24 dc24 pm24 cd24 ct24 : Value}
    (a24 : PySem.W.findIn K (.ref AOffice) "unreadable" = some (some (.ref f24))) (i24 : PySem.W.isFn K (.ref f24) = true) (l24 : K.lookup f24 = some ⟨oc24, od24, .func (PySem.W.fnOf "unreadable" "Office.unreadable" (defArgs sOffice_unreadable) (defBody sOffice_unreadable) (defScope sOffice_unreadable) .none kV24 dc24 pm24 an24 cd24 ct24), sl24⟩) (c24 : PySem.W.codeIn K cd24 "Office.unreadable" = true) (k24 : PySem.W.keepIn K (.ref f24) = true)
    {f25 : Addr} {od25 an25 : Option Addr} {sl25 : Array (Option Value)} {oc25 kV25 dc25 pm25 cd25 ct25 : Value}
    (a25 : PySem.W.findIn K (.ref AOffice) "bundled" = some (some (.ref f25))) (i25 : PySem.W.isFn K (.ref f25) = true) (l25 : K.lookup f25 = some ⟨oc25, od25, .func (PySem.W.fnOf "bundled" "Office.bundled" (defArgs sOffice_bundled) (defBody sOffice_bundled) (defScope sOffice_bundled) .none kV25 dc25 pm25 an25 cd25 ct25), sl25⟩) (c25 : PySem.W.codeIn K cd25 "Office.bundled" = true) (k25 : PySem.W.keepIn K (.ref f25) = true)
    {f26 : Addr} {od26 an26 : Option Addr} {sl26 : Array (Option Value)} {oc26 kV26 dc26 pm26 cd26 ct26 : Value}
    (a26 : PySem.W.findIn K (.ref AOffice) "counts" = some (some (.ref f26))) (i26 : PySem.W.isFn K (.ref f26) = true) (l26 : K.lookup f26 = some ⟨oc26, od26, .func (PySem.W.fnOf "counts" "Office.counts" (defArgs sOffice_counts) (defBody sOffice_counts) (defScope sOffice_counts) .none kV26 dc26 pm26 an26 cd26 ct26), sl26⟩) (c26 : PySem.W.codeIn K cd26 "Office.counts" = true) (k26 : PySem.W.keepIn K (.ref f26) = true)
    {f27 : Addr} {od27 an27 : Option Addr} {sl27 : Array (Option Value)} {oc27 kV27 dc27 pm27 cd27 ct27 : Value}
    (a27 : PySem.W.nsIn K mainGlobals "_law_cell_at" = some (some (.ref f27))) (l27 : K.lookup f27 = some ⟨oc27, od27, .func (PySem.W.fnOf "_law_cell_at" "_law_cell_at" (defArgs s_law_cell_at) (defBody s_law_cell_at) (defScope s_law_cell_at) .none kV27 dc27 pm27 an27 cd27 ct27), sl27⟩) (c27 : PySem.W.codeIn K cd27 "_law_cell_at" = true) (k27 : PySem.W.keepIn K (.ref f27) = true)
    {f28 : Addr} {od28 an28 : Option Addr} {sl28 : Array (Option Value)} {oc28 kV28 dc28 pm28 cd28 ct28 : Value}
    (a28 : PySem.W.nsIn K mainGlobals "_law_bag" = some (some (.ref f28))) (l28 : K.lookup f28 = some ⟨oc28, od28, .func (PySem.W.fnOf "_law_bag" "_law_bag" (defArgs s_law_bag) (defBody s_law_bag) (defScope s_law_bag) .none kV28 dc28 pm28 an28 cd28 ct28), sl28⟩) (c28 : PySem.W.codeIn K cd28 "_law_bag" = true) (k28 : PySem.W.keepIn K (.ref f28) = true)
    {f29 : Addr} {od29 an29 : Option Addr} {sl29 : Array (Option Value)} {oc29 kV29 dc29 pm29 cd29 ct29 : Value}
    (a29 : PySem.W.nsIn K mainGlobals "_law_take" = some (some (.ref f29))) (l29 : K.lookup f29 = some ⟨oc29, od29, .func (PySem.W.fnOf "_law_take" "_law_take" (defArgs s_law_take) (defBody s_law_take) (defScope s_law_take) .none kV29 dc29 pm29 an29 cd29 ct29), sl29⟩) (c29 : PySem.W.codeIn K cd29 "_law_take" = true) (k29 : PySem.W.keepIn K (.ref f29) = true)
    {f30 : Addr} {od30 an30 : Option Addr} {sl30 : Array (Option Value)} {oc30 kV30 dc30 pm30 cd30 ct30 : Value}
    (a30 : PySem.W.nsIn K mainGlobals "_law_book" = some (some (.ref f30))) (l30 : K.lookup f30 = some ⟨oc30, od30, .func (PySem.W.fnOf "_law_book" "_law_book" (defArgs s_law_book) (defBody s_law_book) (defScope s_law_book) .none kV30 dc30 pm30 an30 cd30 ct30), sl30⟩) (c30 : PySem.W.codeIn K cd30 "_law_book" = true) (k30 : PySem.W.keepIn K (.ref f30) = true)
    {f31 : Addr} {od31 an31 : Option Addr} {sl31 : Array (Option Value)} {oc31 kV31 dc31 pm31 cd31 ct31 : Value}
    (a31 : PySem.W.nsIn K mainGlobals "_law_opened" = some (some (.ref f31))) (l31 : K.lookup f31 = some ⟨oc31, od31, .func (PySem.W.fnOf "_law_opened" "_law_opened" (defArgs s_law_opened) (defBody s_law_opened) (defScope s_law_opened) .none kV31 dc31 pm31 an31 cd31 ct31), sl31⟩) (c31 : PySem.W.codeIn K cd31 "_law_opened" = true) (k31 : PySem.W.keepIn K (.ref f31) = true)
    {f32 : Addr} {od32 an32 : Option Addr} {sl32 : Array (Option Value)} {oc32 kV32 dc32 pm32 cd32 ct32 : Value}
    (a32 : PySem.W.nsIn K mainGlobals "_law_counts" = some (some (.ref f32))) (l32 : K.lookup f32 = some ⟨oc32, od32, .func (PySem.W.fnOf "_law_counts" "_law_counts" (defArgs s_law_counts) (defBody s_law_counts) (defScope s_law_counts) .none kV32 dc32 pm32 an32 cd32 ct32), sl32⟩) (c32 : PySem.W.codeIn K cd32 "_law_counts" = true) (k32 : PySem.W.keepIn K (.ref f32) = true)
    {f33 : Addr} {od33 an33 : Option Addr} {sl33 : Array (Option Value)} {oc33 kV33 dc33 pm33 cd33 ct33 : Value}
    (a33 : PySem.W.nsIn K mainGlobals "_law_shows" = some (some (.ref f33))) (l33 : K.lookup f33 = some ⟨oc33, od33, .func (PySem.W.fnOf "_law_shows" "_law_shows" (defArgs s_law_shows) (defBody s_law_shows) (defScope s_law_shows) .none kV33 dc33 pm33 an33 cd33 ct33), sl33⟩) (c33 : PySem.W.codeIn K cd33 "_law_shows" = true) (k33 : PySem.W.keepIn K (.ref f33) = true)
    {f34 : Addr} {od34 an34 : Option Addr} {sl34 : Array (Option Value)} {oc34 kV34 dc34 pm34 cd34 ct34 : Value}
    (a34 : PySem.W.nsIn K mainGlobals "_law_wrong" = some (some (.ref f34))) (l34 : K.lookup f34 = some ⟨oc34, od34, .func (PySem.W.fnOf "_law_wrong" "_law_wrong" (defArgs s_law_wrong) (defBody s_law_wrong) (defScope s_law_wrong) .none kV34 dc34 pm34 an34 cd34 ct34), sl34⟩) (c34 : PySem.W.codeIn K cd34 "_law_wrong" = true) (k34 : PySem.W.keepIn K (.ref f34) = true)
    {f35 : Addr} {od35 an35 : Option Addr} {sl35 : Array (Option Value)} {oc35 kV35 dc35 pm35 cd35 ct35 : Value}
    (a35 : PySem.W.nsIn K mainGlobals "_law_no_book" = some (some (.ref f35))) (l35 : K.lookup f35 = some ⟨oc35, od35, .func (PySem.W.fnOf "_law_no_book" "_law_no_book" (defArgs s_law_no_book) (defBody s_law_no_book) (defScope s_law_no_book) .none kV35 dc35 pm35 an35 cd35 ct35), sl35⟩) (c35 : PySem.W.codeIn K cd35 "_law_no_book" = true) (k35 : PySem.W.keepIn K (.ref f35) = true)
    {f36 : Addr} {od36 an36 : Option Addr} {sl36 : Array (Option Value)} {oc36 kV36 dc36 pm36 cd36 ct36 : Value}
    (a36 : PySem.W.nsIn K mainGlobals "law" = some (some (.ref f36))) (l36 : K.lookup f36 = some ⟨oc36, od36, .func (PySem.W.fnOf "law" "law" (defArgs slaw) (defBody slaw) (defScope slaw) .none kV36 dc36 pm36 an36 cd36 ct36), sl36⟩) (c36 : PySem.W.codeIn K cd36 "law" = true) (k36 : PySem.W.keepIn K (.ref f36) = true)
    (z_ValueError : PySem.W.nsIn K mainGlobals "ValueError" = some none)
    (z_all : PySem.W.nsIn K mainGlobals "all" = some none)
    (z_bool : PySem.W.nsIn K mainGlobals "bool" = some none)
    (z_enumerate : PySem.W.nsIn K mainGlobals "enumerate" = some none)
    (z_int : PySem.W.nsIn K mainGlobals "int" = some none)
    (z_isinstance : PySem.W.nsIn K mainGlobals "isinstance" = some none)
    (z_len : PySem.W.nsIn K mainGlobals "len" = some none)
    (z_list : PySem.W.nsIn K mainGlobals "list" = some none)
    (z_max : PySem.W.nsIn K mainGlobals "max" = some none)
    (z_min : PySem.W.nsIn K mainGlobals "min" = some none)
    (z_range : PySem.W.nsIn K mainGlobals "range" = some none)
    (z_sum : PySem.W.nsIn K mainGlobals "sum" = some none)
    (z_tuple : PySem.W.nsIn K mainGlobals "tuple" = some none)
    {t_MOST_NUMBER : Tok} (g_MOST_NUMBER : PySem.W.nsIn K mainGlobals "MOST_NUMBER" = some (some (.int 596216567187872108348956733961803993280 t_MOST_NUMBER)))
    {p_STEPS : Addr} {t0_STEPS t1_STEPS t2_STEPS t3_STEPS : Tok} {n_STEPS : Nat} {sl_STEPS : Array (Option Value)} (g_STEPS : PySem.W.nsIn K mainGlobals "STEPS" = some (some (.ref p_STEPS))) (m_STEPS : K.lookup p_STEPS = some ⟨.type "tuple", none, .seq #[.int 1 t0_STEPS, .int 2 t1_STEPS, .int (-1) t2_STEPS, .int (-2) t3_STEPS] n_STEPS, sl_STEPS⟩)
    {t_STREETS : Tok} (g_STREETS : PySem.W.nsIn K mainGlobals "STREETS" = some (some (.int 31 t_STREETS)))
    {ALetterError : Addr} (yg_LetterError : PySem.W.nsIn K mainGlobals "LetterError" = some (some (.ref ALetterError)))
    {ANoBook : Addr} (yg_NoBook : PySem.W.nsIn K mainGlobals "NoBook" = some (some (.ref ANoBook)))
    {ANoCarrier : Addr} (yg_NoCarrier : PySem.W.nsIn K mainGlobals "NoCarrier" = some (some (.ref ANoCarrier)))
    {ANoOrder : Addr} (yg_NoOrder : PySem.W.nsIn K mainGlobals "NoOrder" = some (some (.ref ANoOrder)))
    {ANoPlan : Addr} (yg_NoPlan : PySem.W.nsIn K mainGlobals "NoPlan" = some (some (.ref ANoPlan)))
    {ANoStop : Addr} (yg_NoStop : PySem.W.nsIn K mainGlobals "NoStop" = some (some (.ref ANoStop)))
    (ye_LetterError : PySem.W.excIn K ALetterError [.type "ValueError", .type "Exception", .type "BaseException", .type "object"] "ValueError.__new__" = true)
    (yk_LetterError : PySem.W.keepIn K (.ref ALetterError) = true)
    (yb_LetterError : PySem.W.subIn K (.ref ALetterError) (.type "BaseException") = some true)
    (ye_NoBook : PySem.W.excIn K ANoBook [.type "ValueError", .type "Exception", .type "BaseException", .type "object"] "ValueError.__new__" = true)
    (yk_NoBook : PySem.W.keepIn K (.ref ANoBook) = true)
    (yb_NoBook : PySem.W.subIn K (.ref ANoBook) (.type "BaseException") = some true)
    (ye_NoCarrier : PySem.W.excIn K ANoCarrier [.type "ValueError", .type "Exception", .type "BaseException", .type "object"] "ValueError.__new__" = true)
    (yk_NoCarrier : PySem.W.keepIn K (.ref ANoCarrier) = true)
    (yb_NoCarrier : PySem.W.subIn K (.ref ANoCarrier) (.type "BaseException") = some true)
    (ye_NoStop : PySem.W.excIn K ANoStop [.type "ValueError", .type "Exception", .type "BaseException", .type "object"] "ValueError.__new__" = true)
    (yk_NoStop : PySem.W.keepIn K (.ref ANoStop) = true)
    (yb_NoStop : PySem.W.subIn K (.ref ANoStop) (.type "BaseException") = some true)
    (yx0_NoBook : PySem.W.findIn K (.ref ANoBook) "__getattribute__" = some (some (.builtin "BaseException.__getattribute__")))
    (yx1_NoBook : PySem.W.findIn K (.ref ANoBook) "__getattr__" = some none)
    (yx2_NoBook : PySem.W.findIn K (.ref ANoBook) "__class__" = some (some (.builtin "object.__class__")))
    (yx3_NoBook : PySem.W.mroIn K ANoBook (.type "object") = some true)
    (ys_NoBook_LetterError : PySem.W.subIn K (.ref ANoBook) (.ref ALetterError) = some true)
    (yi_NoBook_NoBook : PySem.W.subIn K (.ref ANoBook) (.ref ANoBook) = some true)
    (yi_NoBook_NoOrder : PySem.W.subIn K (.ref ANoBook) (.ref ANoOrder) = some false)
    (ywi_NoBook_NoOrder : ANoBook ≠ ANoOrder)
    (yi_NoBook_NoPlan : PySem.W.subIn K (.ref ANoBook) (.ref ANoPlan) = some false)
    (ywi_NoBook_NoPlan : ANoBook ≠ ANoPlan)
    (yi_NoBook_NoStop : PySem.W.subIn K (.ref ANoBook) (.ref ANoStop) = some false)
    (ywi_NoBook_NoStop : ANoBook ≠ ANoStop)
    (yv_NoBook : PySem.W.subIn K (.ref ANoBook) (.type "ValueError") = some true)
    (yt_LetterError : PySem.W.typeIn K (.ref ALetterError) = some (.type "type"))
    (yd_LetterError : PySem.W.hasDictIn K ALetterError = true)
    (yt_NoBook : PySem.W.typeIn K (.ref ANoBook) = some (.type "type"))
    (yd_NoBook : PySem.W.hasDictIn K ANoBook = true)
    (yt_NoCarrier : PySem.W.typeIn K (.ref ANoCarrier) = some (.type "type"))
    (yd_NoCarrier : PySem.W.hasDictIn K ANoCarrier = true)
    (yt_NoOrder : PySem.W.typeIn K (.ref ANoOrder) = some (.type "type"))
    (yd_NoOrder : PySem.W.hasDictIn K ANoOrder = true)
    (yt_NoPlan : PySem.W.typeIn K (.ref ANoPlan) = some (.type "type"))
    (yd_NoPlan : PySem.W.hasDictIn K ANoPlan = true)
    (yt_NoStop : PySem.W.typeIn K (.ref ANoStop) = some (.type "type"))
    (yd_NoStop : PySem.W.hasDictIn K ANoStop = true)
    (yn : PySem.W.specialIn K (.builtin "object.__class__") "__get__" = some (some (.builtin "getset_descriptor.__get__")))
    (yq : PySem.W.takesIn K (.builtin "object.__class__") = some true)
    : ∃ fd : FuncData, (∀ (s : Shared) (u : Value), BindsTo s fd ⟨[u], []⟩ [("_law_script", u)]) ∧ ∀ base : Heap, K.In base → base.Ns mainGlobals mg → FnOk l.prog w K mg base (L2N.CX l.prog w) 9 fa fd ["_law_script"] (SpD K (clK K) 1 Flaw) := by
  have T : Bt K mg := ⟨PySem.W.mg_none_of X G z_ValueError, PySem.W.mg_none_of X G z_all, PySem.W.mg_none_of X G z_bool, PySem.W.mg_none_of X G z_enumerate, PySem.W.mg_none_of X G z_int, PySem.W.mg_none_of X G z_isinstance, PySem.W.mg_none_of X G z_len, PySem.W.mg_none_of X G z_list, PySem.W.mg_none_of X G z_max, PySem.W.mg_none_of X G z_min, PySem.W.mg_none_of X G z_range, PySem.W.mg_none_of X G z_sum, PySem.W.mg_none_of X G z_tuple, ⟨t_MOST_NUMBER, PySem.W.mg_of X G g_MOST_NUMBER⟩, ⟨p_STEPS, _, _, _, PySem.W.mg_of X G g_STEPS, m_STEPS, rfl, rfl, rfl, Nat.le_of_lt (sz (n := 4) (by decide)), (.cons ⟨t0_STEPS, rfl⟩ (.cons ⟨t1_STEPS, rfl⟩ (.cons ⟨t2_STEPS, rfl⟩ (.cons ⟨t3_STEPS, rfl⟩ .nil))))⟩, ⟨t_STREETS, PySem.W.mg_of X G g_STREETS⟩⟩
  have Ee : Er K mg (clK K) := ⟨clsE_mk X G yg_LetterError ye_LetterError yk_LetterError yb_LetterError yt_LetterError yd_LetterError, clsE_mk X G yg_NoBook ye_NoBook yk_NoBook yb_NoBook yt_NoBook yd_NoBook, clsE_mk X G yg_NoCarrier ye_NoCarrier yk_NoCarrier yb_NoCarrier yt_NoCarrier yd_NoCarrier, clsE_mk X G yg_NoStop ye_NoStop yk_NoStop yb_NoStop yt_NoStop yd_NoStop, by rw [clK_of yg_LetterError]; exact PySem.W.mg_of X G yg_LetterError, by rw [clK_of yg_NoBook]; exact PySem.W.mg_of X G yg_NoBook, by rw [clK_of yg_NoCarrier]; exact PySem.W.mg_of X G yg_NoCarrier, by rw [clK_of yg_NoOrder]; exact PySem.W.mg_of X G yg_NoOrder, by rw [clK_of yg_NoPlan]; exact PySem.W.mg_of X G yg_NoPlan, by rw [clK_of yg_NoStop]; exact PySem.W.mg_of X G yg_NoStop, by rw [clK_of yg_NoBook]; exact kit_ref yd_NoBook yt_NoBook yi_NoBook_NoBook (fun z => nomatch z), by rw [clK_of yg_NoBook, clK_of yg_NoOrder]; exact kit_ref yd_NoOrder yt_NoOrder yi_NoBook_NoOrder (fun _ => ywi_NoBook_NoOrder), by rw [clK_of yg_NoBook, clK_of yg_NoPlan]; exact kit_ref yd_NoPlan yt_NoPlan yi_NoBook_NoPlan (fun _ => ywi_NoBook_NoPlan), by rw [clK_of yg_NoBook, clK_of yg_NoStop]; exact kit_ref yd_NoStop yt_NoStop yi_NoBook_NoStop (fun _ => ywi_NoBook_NoStop), by rw [clK_of yg_NoBook, clK_of yg_LetterError]; exact ys_NoBook_LetterError, by rw [clK_of yg_NoBook]; exact kit_ty (by decide +kernel) yv_NoBook, by rw [clK_of yg_NoBook]; exact ⟨yx0_NoBook, yx1_NoBook, yb_NoBook, yd_NoBook, yx2_NoBook, yn, yq, yx3_NoBook⟩⟩
  have Kk : Kl K mg (clK K) := ⟨by rw [clK_of og_Office]; exact ⟨op_Office, od_Office, oo_Office, os_Office⟩, ⟨by rw [clK_of og_Office]; exact PySem.W.mg_of X G og_Office, by rw [clK_of og_Office]; exact om_Office, by rw [clK_of og_Office]; exact ok_Office⟩, by rw [clK_of og_Office]; exact on_Office_in_force, by rw [clK_of og_Office]; exact on_Office_kept, by rw [clK_of og_Office]; exact on_Office_left, by rw [clK_of og_Office]; exact on_Office_loose, by rw [clK_of og_Office]; exact on_Office_numbered, by rw [clK_of og_Office]; exact on_Office_sorted_on, by rw [clK_of og_Office]; exact on_Office_strays, by rw [clK_of og_Office]; exact on_Office_today, by rw [clK_of og_Office]; exact on_Office_unread, by rw [clK_of og_Office]; exact on_Office_walks⟩
  have I0 : DefIn K mg "is_whole" sis_whole ["some"] := defIn_mk X G a0 l0 c0 k0 fun _ _ _ _ _ _ us hl => match us, hl with | [_], _ => rfl
  have I1 : DefIn K mg "is_street" sis_street ["some"] := defIn_mk X G a1 l1 c1 k1 fun _ _ _ _ _ _ us hl => match us, hl with | [_], _ => rfl
  have I2 : DefIn K mg "is_house" sis_house ["some"] := defIn_mk X G a2 l2 c2 k2 fun _ _ _ _ _ _ us hl => match us, hl with | [_], _ => rfl
  have I3 : DefIn K mg "is_reached" sis_reached ["first", "last", "step"] := defIn_mk X G a3 l3 c3 k3 fun _ _ _ _ _ _ us hl => match us, hl with | [_, _, _], _ => rfl
  have I4 : DefIn K mg "is_run" sis_run ["some"] := defIn_mk X G a4 l4 c4 k4 fun _ _ _ _ _ _ us hl => match us, hl with | [_], _ => rfl
  have I5 : DefIn K mg "houses" shouses ["run"] := defIn_mk X G a5 l5 c5 k5 fun _ _ _ _ _ _ us hl => match us, hl with | [_], _ => rfl
  have I6 : DefIn K mg "house_at" shouse_at ["run", "place"] := defIn_mk X G a6 l6 c6 k6 fun _ _ _ _ _ _ us hl => match us, hl with | [_, _], _ => rfl
  have I7 : DefIn K mg "place_in" splace_in ["run", "number"] := defIn_mk X G a7 l7 c7 k7 fun _ _ _ _ _ _ us hl => match us, hl with | [_, _], _ => rfl
  have I8 : DefIn K mg "least_shared" sleast_shared ["one", "other"] := defIn_mk X G a8 l8 c8 k8 fun _ _ _ _ _ _ us hl => match us, hl with | [_, _], _ => rfl
  have I9 : DefIn K mg "are_walks" sare_walks ["some"] := defIn_mk X G a9 l9 c9 k9 fun _ _ _ _ _ _ us hl => match us, hl with | [_], _ => rfl
  have I10 : DefIn K mg "all_runs" sall_runs ["walks"] := defIn_mk X G a10 l10 c10 k10 fun _ _ _ _ _ _ us hl => match us, hl with | [_], _ => rfl
  have I11 : DefIn K mg "meeting" smeeting ["walks"] := defIn_mk X G a11 l11 c11 k11 fun _ _ _ _ _ _ us hl => match us, hl with | [_], _ => rfl
  have I12 : DefIn K mg "is_book" sis_book ["some"] := defIn_mk X G a12 l12 c12 k12 fun _ _ _ _ _ _ us hl => match us, hl with | [_], _ => rfl
  have I13 : DefIn K mg "address_of" saddress_of ["book", "rank"] := defIn_mk X G a13 l13 c13 k13 fun _ _ _ _ _ _ us hl => match us, hl with | [_, _], _ => rfl
  have I14 : DefIn K mg "stops" sstops ["book"] := defIn_mk X G a14 l14 c14 k14 fun _ _ _ _ _ _ us hl => match us, hl with | [_], _ => rfl
  have I15 : DefIn K mg "letters_in" sletters_in ["one"] := defIn_mk X G a15 l15 c15 k15 fun _ _ _ _ _ _ us hl => match us, hl with | [_], _ => rfl
  have I16 : DefIn K mg "many_of" smany_of ["rows"] := defIn_mk X G a16 l16 c16 k16 fun _ _ _ _ _ _ us hl => match us, hl with | [_], _ => rfl
  have J17 := fun_mk (st := sOffice___init__) l17 c17 k17
  have I17 : MethIn K (clK K) "Office" "__init__" "Office.__init__" sOffice___init__ ["self", "book"] := ⟨f17, _, J17, by rw [clK_of og_Office]; exact ⟨a17, i17, k17⟩, fun us hl => match us, hl with | [_, _], _ => rfl⟩
  have J18 := fun_mk (st := sOffice_bundle) l18 c18 k18
  have I18 : MethIn K (clK K) "Office" "bundle" "Office.bundle" sOffice_bundle ["self", "carrier"] := ⟨f18, _, J18, by rw [clK_of og_Office]; exact ⟨a18, i18, k18⟩, fun us hl => match us, hl with | [_, _], _ => rfl⟩
  have J19 := fun_mk (st := sOffice_day) l19 c19 k19
  have I19 : MethIn K (clK K) "Office" "day" "Office.day" sOffice_day ["self"] := ⟨f19, _, J19, by rw [clK_of og_Office]; exact ⟨a19, i19, k19⟩, fun us hl => match us, hl with | [_], _ => rfl⟩
  have J20 := fun_mk (st := sOffice_orders) l20 c20 k20
  have I20 : MethIn K (clK K) "Office" "orders" "Office.orders" sOffice_orders ["self"] := ⟨f20, _, J20, by rw [clK_of og_Office]; exact ⟨a20, i20, k20⟩, fun us hl => match us, hl with | [_], _ => rfl⟩
  have J21 := fun_mk (st := sOffice_hand) l21 c21 k21
  have I21 : MethIn K (clK K) "Office" "hand" "Office.hand" sOffice_hand ["self"] := ⟨f21, _, J21, by rw [clK_of og_Office]; exact ⟨a21, i21, k21⟩, fun us hl => match us, hl with | [_], _ => rfl⟩
  have J22 := fun_mk (st := sOffice_held) l22 c22 k22
  have I22 : MethIn K (clK K) "Office" "held" "Office.held" sOffice_held ["self"] := ⟨f22, _, J22, by rw [clK_of og_Office]; exact ⟨a22, i22, k22⟩, fun us hl => match us, hl with | [_], _ => rfl⟩
  have J23 := fun_mk (st := sOffice_astray) l23 c23 k23
  have I23 : MethIn K (clK K) "Office" "astray" "Office.astray" sOffice_astray ["self"] := ⟨f23, _, J23, by rw [clK_of og_Office]; exact ⟨a23, i23, k23⟩, fun us hl => match us, hl with | [_], _ => rfl⟩
  have J24 := fun_mk (st := sOffice_unreadable) l24 c24 k24
  have I24 : MethIn K (clK K) "Office" "unreadable" "Office.unreadable" sOffice_unreadable ["self"] := ⟨f24, _, J24, by rw [clK_of og_Office]; exact ⟨a24, i24, k24⟩, fun us hl => match us, hl with | [_], _ => rfl⟩
  have J25 := fun_mk (st := sOffice_bundled) l25 c25 k25
  have I25 : MethIn K (clK K) "Office" "bundled" "Office.bundled" sOffice_bundled ["self"] := ⟨f25, _, J25, by rw [clK_of og_Office]; exact ⟨a25, i25, k25⟩, fun us hl => match us, hl with | [_], _ => rfl⟩
  have J26 := fun_mk (st := sOffice_counts) l26 c26 k26
  have I26 : MethIn K (clK K) "Office" "counts" "Office.counts" sOffice_counts ["self"] := ⟨f26, _, J26, by rw [clK_of og_Office]; exact ⟨a26, i26, k26⟩, fun us hl => match us, hl with | [_], _ => rfl⟩
  have I27 : DefIn K mg "_law_cell_at" s_law_cell_at ["_law_script", "_law_k"] := defIn_mk X G a27 l27 c27 k27 fun _ _ _ _ _ _ us hl => match us, hl with | [_, _], _ => rfl
  have I28 : DefIn K mg "_law_bag" s_law_bag ["_law_script", "_law_at"] := defIn_mk X G a28 l28 c28 k28 fun _ _ _ _ _ _ us hl => match us, hl with | [_, _], _ => rfl
  have I29 : DefIn K mg "_law_take" s_law_take ["_law_bag_here", "_law_many"] := defIn_mk X G a29 l29 c29 k29 fun _ _ _ _ _ _ us hl => match us, hl with | [_, _], _ => rfl
  have I30 : DefIn K mg "_law_book" s_law_book ["_law_bag_here"] := defIn_mk X G a30 l30 c30 k30 fun _ _ _ _ _ _ us hl => match us, hl with | [_], _ => rfl
  have I31 : DefIn K mg "_law_opened" s_law_opened ["_law_book_here"] := defIn_mk X G a31 l31 c31 k31 fun _ _ _ _ _ _ us hl => match us, hl with | [_], _ => rfl
  have I32 : DefIn K mg "_law_counts" s_law_counts ["_law_state"] := defIn_mk X G a32 l32 c32 k32 fun _ _ _ _ _ _ us hl => match us, hl with | [_], _ => rfl
  have I33 : DefIn K mg "_law_shows" s_law_shows ["_law_office", "_law_state"] := defIn_mk X G a33 l33 c33 k33 fun _ _ _ _ _ _ us hl => match us, hl with | [_, _], _ => rfl
  have I34 : DefIn K mg "_law_wrong" s_law_wrong ["_law_bag_here", "_law_book_here"] := defIn_mk X G a34 l34 c34 k34 fun _ _ _ _ _ _ us hl => match us, hl with | [_, _], _ => rfl
  have I35 : DefIn K mg "_law_no_book" s_law_no_book ["_law_thing"] := defIn_mk X G a35 l35 c35 k35 fun _ _ _ _ _ _ us hl => match us, hl with | [_], _ => rfl
  have I36 : DefIn K mg "law" slaw ["_law_script"] := defIn_mk X G a36 l36 c36 k36 fun _ _ _ _ _ _ us hl => match us, hl with | [_], _ => rfl
  obtain ⟨fd, hb, hF⟩ := law_fn (P := l.prog) (w := w) (cl := (clK K)) (k := 9) (F := Flaw) I36 hfa
  refine ⟨fd, fun s u => .of_eq (hb [u] rfl), fun base _ _ => hF base ?_⟩
  have Gis_whole : DefOk l.prog w K mg base (clK K) "is_whole" 1 ["some"] Fis_whole := kis_whole T Ee Kk I0 
  have Gis_street : DefOk l.prog w K mg base (clK K) "is_street" 2 ["some"] Fis_street := kis_street T Ee Kk I1 Gis_whole
  have Gis_house : DefOk l.prog w K mg base (clK K) "is_house" 2 ["some"] Fis_house := kis_house T Ee Kk I2 Gis_whole
  have Gis_reached : DefOk l.prog w K mg base (clK K) "is_reached" 1 ["first", "last", "step"] Fis_reached := kis_reached T Ee Kk I3 
  have Gis_run : DefOk l.prog w K mg base (clK K) "is_run" 3 ["some"] Fis_run := kis_run T Ee Kk I4 Gis_reached Gis_street Gis_house Gis_whole
  have Ghouses : DefOk l.prog w K mg base (clK K) "houses" 1 ["run"] Fhouses := khouses T Ee Kk I5 
  have Ghouse_at : DefOk l.prog w K mg base (clK K) "house_at" 2 ["run", "place"] Fhouse_at := khouse_at T Ee Kk I6 Ghouses
  have Gplace_in : DefOk l.prog w K mg base (clK K) "place_in" 2 ["run", "number"] Fplace_in := kplace_in T Ee Kk I7 Ghouses
  have Gleast_shared : DefOk l.prog w K mg base (clK K) "least_shared" 3 ["one", "other"] Fleast_shared := kleast_shared T Ee Kk I8 Gplace_in
  have Gare_walks : DefOk l.prog w K mg base (clK K) "are_walks" 4 ["some"] Fare_walks := kare_walks T Ee Kk I9 Gis_run
  have Gall_runs : DefOk l.prog w K mg base (clK K) "all_runs" 1 ["walks"] Fall_runs := kall_runs T Ee Kk I10 
  have Gmeeting : DefOk l.prog w K mg base (clK K) "meeting" 4 ["walks"] Fmeeting := kmeeting T Ee Kk I11 Gall_runs Gleast_shared
  have Gis_book : DefOk l.prog w K mg base (clK K) "is_book" 5 ["some"] Fis_book := kis_book T Ee Kk I12 Gare_walks Gmeeting
  have Gaddress_of : DefOk l.prog w K mg base (clK K) "address_of" 3 ["book", "rank"] Faddress_of := kaddress_of T Ee Kk I13 Gall_runs Ghouses Ghouse_at
  have Gstops : DefOk l.prog w K mg base (clK K) "stops" 2 ["book"] Fstops := kstops T Ee Kk I14 Ghouses
  have Gletters_in : DefOk l.prog w K mg base (clK K) "letters_in" 1 ["one"] Fletters_in := kletters_in T Ee Kk I15 
  have Gmany_of : DefOk l.prog w K mg base (clK K) "many_of" 1 ["rows"] Fmany_of := kmany_of T Ee Kk I16 
  have GOffice___init__ : MethOk l.prog w K mg base (clK K) "Office" "__init__" 6 ["self", "book"] FOffice___init__ := kOffice___init__ T Ee Kk I17 Gis_book
  have GOffice_bundle : MethOk l.prog w K mg base (clK K) "Office" "bundle" 4 ["self", "carrier"] FOffice_bundle := kOffice_bundle T Ee Kk I18 Gstops Gaddress_of
  have GOffice_day : MethOk l.prog w K mg base (clK K) "Office" "day" 1 ["self"] FOffice_day := kOffice_day T Ee Kk I19 
  have GOffice_orders : MethOk l.prog w K mg base (clK K) "Office" "orders" 1 ["self"] FOffice_orders := kOffice_orders T Ee Kk I20 
  have GOffice_hand : MethOk l.prog w K mg base (clK K) "Office" "hand" 1 ["self"] FOffice_hand := kOffice_hand T Ee Kk I21 
  have GOffice_held : MethOk l.prog w K mg base (clK K) "Office" "held" 1 ["self"] FOffice_held := kOffice_held T Ee Kk I22 
  have GOffice_astray : MethOk l.prog w K mg base (clK K) "Office" "astray" 1 ["self"] FOffice_astray := kOffice_astray T Ee Kk I23 
  have GOffice_unreadable : MethOk l.prog w K mg base (clK K) "Office" "unreadable" 1 ["self"] FOffice_unreadable := kOffice_unreadable T Ee Kk I24 
  have GOffice_bundled : MethOk l.prog w K mg base (clK K) "Office" "bundled" 1 ["self"] FOffice_bundled := kOffice_bundled T Ee Kk I25 
  have GOffice_counts : MethOk l.prog w K mg base (clK K) "Office" "counts" 2 ["self"] FOffice_counts := kOffice_counts T Ee Kk I26 Gletters_in Gmany_of
  have G_law_cell_at : DefOk l.prog w K mg base (clK K) "_law_cell_at" 1 ["_law_script", "_law_k"] F_law_cell_at := k_law_cell_at T Ee Kk I27 
  have G_law_bag : DefOk l.prog w K mg base (clK K) "_law_bag" 2 ["_law_script", "_law_at"] F_law_bag := k_law_bag T Ee Kk I28 G_law_cell_at
  have G_law_take : DefOk l.prog w K mg base (clK K) "_law_take" 1 ["_law_bag_here", "_law_many"] F_law_take := k_law_take T Ee Kk I29 
  have G_law_book : DefOk l.prog w K mg base (clK K) "_law_book" 2 ["_law_bag_here"] F_law_book := k_law_book T Ee Kk I30 G_law_take
  have G_law_opened : DefOk l.prog w K mg base (clK K) "_law_opened" 1 ["_law_book_here"] F_law_opened := k_law_opened T Ee Kk I31 
  have G_law_counts : DefOk l.prog w K mg base (clK K) "_law_counts" 1 ["_law_state"] F_law_counts := k_law_counts T Ee Kk I32 
  have G_law_shows : DefOk l.prog w K mg base (clK K) "_law_shows" 3 ["_law_office", "_law_state"] F_law_shows := k_law_shows T Ee Kk I33 GOffice_day GOffice_orders GOffice_hand GOffice_held GOffice_astray GOffice_unreadable GOffice_bundled GOffice_counts G_law_counts
  have G_law_wrong : DefOk l.prog w K mg base (clK K) "_law_wrong" 2 ["_law_bag_here", "_law_book_here"] F_law_wrong := k_law_wrong T Ee Kk I34 G_law_take
  have G_law_no_book : DefOk l.prog w K mg base (clK K) "_law_no_book" 8 ["_law_thing"] F_law_no_book := k_law_no_book T Ee Kk I35 GOffice___init__
  exact klaw T Ee Kk I36 G_law_bag G_law_book GOffice___init__ G_law_shows G_law_opened GOffice_bundle G_law_no_book G_law_wrong
end Lw
set_option Elab.async false
set_option linter.all false
set_option maxRecDepth 100000
namespace Lw
open PySem PySem.Spec PyProof.Rows L2 Pu
def cellAt (ns : List Int) (k : Nat) : Int := ns[k]?.getD 0
theorem cell_at (ns : List Int) (k : Nat) (S : Sto) : F_law_cell_at [.fls (ns.map D.int), .int k] S = .ok (.int (cellAt ns k)) S := by
  simp only [F_law_cell_at, runD, b_law_cell_at]
  by_cases h : k < ns.length
  · have e : atI (ns.map D.int) (k : Int) = some (.int ns[k]) := atI_nat (by simp [h])
    simp [h, e, cellAt, fin_same]
  · simp [h, cellAt, fin_same]
def Bg (S : Sto) (k : Nat) (c m : Int) : Sto := S.set k (.lst [.int c, .int m])
section
variable {S : Sto} {k j : Nat} {c m c' m' : Int}
theorem Bg_len : (Bg S k c m).length = S.length := by simp [Bg]
theorem Bg_at (h : k < S.length) : (Bg S k c m)[k]? = some (.lst [.int c, .int m]) := by simp [Bg, h]
theorem Bg_set : (Bg S k c m).set k (.lst [.int c', .int m']) = Bg S k c' m' := by simp [Bg]
theorem Bg_app (h : k < S.length) {T : Sto} : Bg S k c m ++ T = Bg (S ++ T) k c m := by simp [Bg, List.set_append, h]
theorem Bg_last {o : DO} (h : k < S.length) : (Bg (S ++ [o]) k c m)[S.length]? = some o := by
  unfold Bg
  rw [List.getElem?_set_ne (by omega), last_at]
theorem Bg_setl {o p : DO} (h : k < S.length) : (Bg (S ++ [o]) k c m).set S.length p = Bg (S ++ [p]) k c m := by
  unfold Bg
  rw [List.set_comm _ _ (by omega), set_last]
theorem Bg_of (h : S[k]? = some (.lst [.int c, .int m])) : Bg S k c m = S := by
  unfold Bg
  apply List.ext_getElem?
  intro i
  by_cases hi : k = i
  · subst hi
    rw [List.getElem?_set_self (List.getElem?_eq_some_iff.mp h).1, h]
  · rw [List.getElem?_set_ne hi]
theorem Bg_clo (h : k < S.length) {T : Sto} : Clo (Bg S k c m) (Bg S k c' m' ++ T) := by
  have := Clo.set (S := Bg S k c m) (T := T) (k := k) (o := .lst [.int c', .int m']) (by simp)
  rw [Bg_set] at this
  exact this
theorem fin_bg {d : D} {T : Sto} (h : k < S.length) (hd : d.gnd = true) : fin .frz (Bg S k c m) d (Bg S k c' m' ++ T) = .ok d (Bg S k c' m') := by
  rw [fin_frz (Bg_clo h) hd]
  have : (Bg S k c m).length = (Bg S k c' m').length := by simp [Bg_len]
  rw [this, List.take_left]
theorem fin_bg0 {d : D} (h : k < S.length) (hd : d.gnd = true) : fin .frz (Bg S k c m) d (Bg S k c' m') = .ok d (Bg S k c' m') := by
  have := fin_bg (c := c) (m := m) (c' := c') (m' := m') (T := []) h hd
  simpa using this
end
theorem fin_new {S : Sto} {o : DO} (h : o.bel S.length = true) : fin .new S (.ref S.length) (S ++ [o]) = .ok (.ref S.length) (S ++ [o]) := by
  simp only [fin]
  rw [if_pos ⟨Clo.app, Nat.le_refl _⟩, last_at]
  simp only
  rw [if_pos h, List.take_left]
theorem bag_turn (ns : List Int) (k n : Nat) (hk : k ≤ 1000) (hn : n < 9) (N : Int) (c : Option D) (pr : List Int) (hpr : pr.length = 9) (hpos : ∀ p ∈ pr, 0 < p) (S : Sto) : ∃ M : Int, 0 ≤ M ∧ turn [5, 6] (.nm 5) b_law_bag_1 (.int n) [some (.fls (ns.map D.int)), some (.int k), some (.tup (pr.map D.int)), c, some (.int N), none, none] S = .next [some (.fls (ns.map D.int)), some (.int k), some (.tup (pr.map D.int)), c, some (.int M), none, none] S := by
  have a7 : ((k : Int) + (n : Int)) = ((k + n : Nat) : Int) := by omega
  generalize hc0 : cellAt ns (k + n) = c0
  have m18 : modD (.int c0) (.int 1000000000000000000) S = .ok (.int (c0 % 1000000000000000000)) S := modD_pos (by decide)
  have k1 : FitMul 7 n := .left (by decide) (by decide)
  generalize ho : c0 % 1000000000000000000 + 7 * (n : Int) + 1 = o
  have hb : 0 ≤ o ∧ o < 2 ^ 62 := by
    have h1 : 0 ≤ c0 % 1000000000000000000 := Int.emod_nonneg _ (by decide)
    have h2 : c0 % 1000000000000000000 < 1000000000000000000 := Int.emod_lt_of_pos _ (by decide)
    omega
  have k4 : FitMul N 48271 := .right (by decide) (by decide)
  have k5 : PowOk o 3 := .of (b := 62) (by omega) (by decide) (by decide)
  have hp : atI (pr.map D.int) (n : Int) = some (.int (pr[n]'(by omega))) := by
    rw [atI_cast]
    simp [show n < pr.length by omega]
  have hp0 : 0 < pr[n]'(by omega) := hpos _ (List.getElem_mem _)
  generalize pr[n]'(by omega) = p at hp hp0
  have mp : modD (.int (o ^ Int.toNat 3)) (.int p) S = .ok (.int (o ^ Int.toNat 3 % p)) S := modD_pos hp0
  have ml : modD (.int (N * 48271 + o ^ Int.toNat 3 % p)) (.int 2147483629) S = .ok (.int ((N * 48271 + o ^ Int.toNat 3 % p) % 2147483629)) S := modD_pos (by decide)
  refine ⟨_, Int.emod_nonneg (N * 48271 + o ^ Int.toNat 3 % p) (show (2147483629 : Int) ≠ 0 by decide), ?_⟩
  simp only [turn, b_law_bag_1, goS, cell_at, goI, a7, hc0, p10_18, m18, mulD_ok k1, ho, mulD_ok k4, powD_ok k5, ixD_tup, hp, mp, ml]
theorem bag (ns : List Int) (k : Nat) (hk : k ≤ 1000) (S : Sto) : ∃ c m : Int, 0 ≤ c ∧ F_law_bag [.fls (ns.map D.int), .int k] S = .ok (.ref S.length) (S ++ [.lst [.int c, .int m]]) := by
  have k1 : FitMul 7919 k := .left (by decide) (by decide)
  obtain ⟨e', S', q, hI⟩ := for_inv0 (dead := [5, 6]) (tg := .nm 5) (body := b_law_bag_1) (ys := rngD 0 9) (xs := rngD 0 9) (S := S) (e := [some (.fls (ns.map D.int)), some (.int k), some (.tup ([99989, 99971, 99961, 99929, 99923, 99907, 99901, 99881, 99877].map D.int)), some (.int (cellAt ns k)), some (.int (7919 * k + 17)), none, none])
    (fun n e S' => S' = S ∧ ∃ N : Int, e = [some (.fls (ns.map D.int)), some (.int k), some (.tup ([99989, 99971, 99961, 99929, 99923, 99907, 99901, 99881, 99877].map D.int)), some (.int (cellAt ns k)), some (.int N), none, none]) ⟨rfl, _, rfl⟩ (fun n e S' x hx ⟨eS, N, ee⟩ => by
      subst eS ee
      obtain ⟨ex, hlt⟩ := rngD_get hx
      subst ex
      rw [Int.zero_add]
      obtain ⟨M, hM, q⟩ := bag_turn ns k n hk (by omega) N (some (.int (cellAt ns k))) [99989, 99971, 99961, 99929, 99923, 99907, 99901, 99881, 99877] rfl (by decide) S'
      exact ⟨_, _, q, rfl, M, rfl⟩)
  obtain ⟨rfl, N, rfl⟩ := hI
  have q' : forD [5, 6] (.nm 5) (.tmp (rngD 0 9)) b_law_bag_1 (rngD 0 9) [some (.fls (ns.map D.int)), some (.int k), some (.tup [.int 99989, .int 99971, .int 99961, .int 99929, .int 99923, .int 99907, .int 99901, .int 99881, .int 99877]), some (.int (cellAt ns k)), some (.int (7919 * k + 17)), none, none] S' = _ := q
  by_cases hc : cellAt ns k < 1000000000000000000
  · refine ⟨0, N + 1, by decide, ?_⟩
    simp only [F_law_bag, runD, b_law_bag, go0, goS, cell_at, mulD_ok k1, goI]
    rw [show sFor [5, 6] (.nm 5) (iR1 (eC (.int 9))) b_law_bag_1 [some (.fls (ns.map D.int)), some (.int k), some (.tup [.int 99989, .int 99971, .int 99961, .int 99929, .int 99923, .int 99907, .int 99901, .int 99881, .int 99877]), some (.int (cellAt ns k)), some (.int (7919 * k + 17)), none, none] S' = _ from forR1i (i := 9) rfl (by decide) (by decide), q']
    simp only [goS, p10_18, goI, hc, decide_true, List.map_cons, List.map_nil]
    exact fin_new rfl
  · refine ⟨cellAt ns k, N + 1, by omega, ?_⟩
    simp only [F_law_bag, runD, b_law_bag, go0, goS, cell_at, mulD_ok k1, goI]
    rw [show sFor [5, 6] (.nm 5) (iR1 (eC (.int 9))) b_law_bag_1 [some (.fls (ns.map D.int)), some (.int k), some (.tup [.int 99989, .int 99971, .int 99961, .int 99929, .int 99923, .int 99907, .int 99901, .int 99881, .int 99877]), some (.int (cellAt ns k)), some (.int (7919 * k + 17)), none, none] S' = _ from forR1i (i := 9) rfl (by decide) (by decide), q']
    simp only [goS, p10_18, goI, hc, decide_false, List.map_cons, List.map_nil]
    exact fin_new rfl
theorem take_turn {S : Sto} {k : Nat} (h : k < S.length) (many : Int) (x2 : Option D) (f r c m : Int) : ∃ f' m' : Int, b_law_take_1 [some (.ref k), some (.int many), x2, some (.int f), some (.int r)] (Bg S k c m) = .next [some (.ref k), some (.int many), x2, some (.int f'), some (.int (r * 1000003))] (Bg S k c m') := by
  have m1 : FitMul m 48271 := .right (by decide) (by decide)
  have m2 : FitMul f 1000003 := .right (by decide) (by decide)
  have m3 : FitMul r 1000003 := .right (by decide) (by decide)
  generalize hm : m * 48271 % 2147483647 = m'
  have hb : 0 ≤ m' ∧ m' < 2147483647 := by
    subst hm
    exact ⟨Int.emod_nonneg _ (by decide), Int.emod_lt_of_pos _ (by decide)⟩
  have pw : PowOk m' 3 := .of (b := 31) (by omega) (by decide) (by decide)
  have d1 : modD (.int (m * 48271)) (.int 2147483647) (Bg S k c m) = .ok (.int m') (Bg S k c m) := by rw [modD_pos (by decide), hm]
  have st : stD (.ref k) (.int 1) (.int m') (Bg S k c m) = some (Bg S k c m') := by
    rw [stD_lst (Bg_at h) (show ixN [D.int c, D.int m].length 1 = some 1 from rfl)]
    simp only [List.set, Bg_set]
  have d2 : modD (.int (m' ^ Int.toNat 3)) (.int 2147483629) (Bg S k c m') = .ok (.int (m' ^ Int.toNat 3 % 2147483629)) (Bg S k c m') := modD_pos (by decide)
  have d3 : modD (.int (m' ^ Int.toNat 3 % 2147483629)) (.int 1000003) (Bg S k c m') = .ok (.int (m' ^ Int.toNat 3 % 2147483629 % 1000003)) (Bg S k c m') := modD_pos (by decide)
  refine ⟨f * 1000003 + m' ^ Int.toNat 3 % 2147483629 % 1000003, m', ?_⟩
  simp only [b_law_take_1, goS, ixD_ref (Bg_at h), atI_1, List.getElem?_cons_succ, List.getElem?_cons_zero, mulD_ok m1, d1, st, mulD_ok m2, powD_ok pw, d2, d3, goI, mulD_ok m3]
theorem take_loop {S : Sto} {k : Nat} (h : k < S.length) (many : Int) (x2 : Option D) (c : Int) : ∀ (n : Nat) (f r m : Int), 0 < r → many ≤ r * 1000003 ^ n → ∃ f' r' m' : Int, whileN [] (eTB (e2 ltD (eVar 4) (eVar 1))) b_law_take_1 (n + 1) [some (.ref k), some (.int many), x2, some (.int f), some (.int r)] (Bg S k c m) = .next [some (.ref k), some (.int many), x2, some (.int f'), some (.int r')] (Bg S k c m')
  | n, f, r, m, h0, hm => by
    by_cases hr : r < many
    · cases n with
      | zero => omega
      | succ n =>
        obtain ⟨f1, m1, q1⟩ := take_turn h many x2 f r c m
        obtain ⟨f2, r2, m2, q2⟩ := take_loop h many x2 c n f1 (r * 1000003) m1 (by omega) (by rw [Int.mul_assoc, ← Int.pow_succ']; exact hm)
        refine ⟨f2, r2, m2, ?_⟩
        unfold whileN
        simp only [goS, goI, hr, decide_true, q1]
        exact q2
    · refine ⟨f, r, m, ?_⟩
      unfold whileN
      simp only [goS, goI, hr, decide_false]
theorem pow_big (many : Int) : ∃ n : Nat, many ≤ 1 * 1000003 ^ n := by
  refine ⟨many.toNat, ?_⟩
  have h : ∀ n : Nat, (n : Int) ≤ 1000003 ^ n := by
    intro n
    induction n with
    | zero => decide
    | succ n ih =>
      rw [Int.pow_succ]
      have : (1 : Int) ≤ 1000003 ^ n := by
        have h0 : (0 : Int) < 1000003 ^ n := Int.pow_pos (by decide)
        omega
      omega
  have := h many.toNat
  omega
theorem take {S : Sto} {k : Nat} {c m many : Int} (h : k < S.length) (hc : 0 ≤ c) (hm : 0 < many) (hl : many.natAbs.log2 < 9000) : ∃ d c' m' : Int, 0 ≤ d ∧ d < many ∧ 0 ≤ c' ∧ F_law_take [.ref k, .int many] (Bg S k c m) = .ok (.int d) (Bg S k c' m') := by
  by_cases h0 : 0 < c
  · have d1 : modD (.int c) (.int many) (Bg S k c m) = .ok (.int (c % many)) (Bg S k c m) := modD_pos hm
    have d2 : fdivD (.int c) (.int many) (Bg S k c m) = .ok (.int (c / many)) (Bg S k c m) := fdivD_pos hm hl
    have st : stD (.ref k) (.int 0) (.int (c / many)) (Bg S k c m) = some (Bg S k (c / many) m) := by
      rw [stD_lst (Bg_at h) (show ixN [D.int c, D.int m].length 0 = some 0 from rfl)]
      simp only [List.set, Bg_set]
    refine ⟨c % many, c / many, m, Int.emod_nonneg _ (by omega), Int.emod_lt_of_pos _ hm, Int.ediv_nonneg hc (by omega), ?_⟩
    simp only [F_law_take, runD, b_law_take, go0, goS, goI, ixD_ref (Bg_at h), atI_0, List.getElem?_cons_zero, h0, decide_true, d1, d2, st]
    exact fin_bg0 h rfl
  · obtain ⟨n, hn⟩ := pow_big many
    obtain ⟨f', r', m', q⟩ := take_loop h many none c n 0 1 m (by decide) hn
    have q' := whileD_eq q (by simp)
    have d1 : modD (.int f') (.int many) (Bg S k c m') = .ok (.int (f' % many)) (Bg S k c m') := modD_pos hm
    refine ⟨f' % many, c, m', Int.emod_nonneg _ (by omega), Int.emod_lt_of_pos _ hm, hc, ?_⟩
    simp only [F_law_take, runD, b_law_take, go0, goS, goI, ixD_ref (Bg_at h), atI_0, List.getElem?_cons_zero, h0, decide_false, q', d1]
    exact fin_bg0 h rfl
theorem takeN {S : Sto} {k : Nat} {c m : Int} {many : Nat} (h : k < S.length) (hc : 0 ≤ c) (hm : 0 < many) (hl : many < 9000) : ∃ (d : Nat) (c' m' : Int), d < many ∧ 0 ≤ c' ∧ F_law_take [.ref k, .int many] (Bg S k c m) = .ok (.int d) (Bg S k c' m') := by
  obtain ⟨d, c', m', h1, h2, h3, q⟩ := take (many := many) (c := c) (m := m) h hc (by omega) (by
    have : (many : Int).natAbs.log2 ≤ (many : Int).natAbs := Nat.log2_le_self _
    omega)
  obtain ⟨n, rfl⟩ := Int.eq_ofNat_of_zero_le h1
  exact ⟨n, c', m', by omega, h3, q⟩
/-- one of a list's numbers, drawn, then a number below it -/
theorem take_of {S : Sto} {k : Nat} {c m : Int} (ms : List Int) {n : Nat} (hn : ms.length = n) (h0 : 0 < n) (h9 : n < 9000) (hp : ∀ p ∈ ms, 0 < p ∧ p.natAbs.log2 < 9000) (h : k < S.length) (hc : 0 ≤ c) : ∃ (j : Nat) (d p c1 m1 c2 m2 : Int), 0 ≤ c2 ∧ F_law_take [.ref k, .int n] (Bg S k c m) = .ok (.int j) (Bg S k c1 m1) ∧ atI (ms.map D.int) (j : Int) = some (.int p) ∧ F_law_take [.ref k, .int p] (Bg S k c1 m1) = .ok (.int d) (Bg S k c2 m2) := by
  obtain ⟨j, c1, m1, hj, hc1, q1⟩ := takeN (many := n) (m := m) h hc h0 h9
  obtain ⟨p1, p2⟩ := hp (ms[j]'(by omega)) (List.getElem_mem _)
  obtain ⟨d, c2, m2, _, _, hc2, q2⟩ := take (m := m1) h hc1 p1 p2
  exact ⟨j, d, _, c1, m1, c2, m2, hc2, q1, by rw [atI_cast]; simp [show j < ms.length by omega], q2⟩
theorem ixN_m1 {n : Nat} (h : 0 < n) : ixN n (-1) = some (n - 1) := by
  unfold ixN
  rw [if_neg (by decide), if_pos (by omega)]
  congr 1
  omega
theorem set_end {α : Type} {f : List α} {l a : α} (h : f.getLast? = some l) : f.set (f.length - 1) a = f.dropLast ++ [a] := by
  rcases List.eq_nil_or_concat f with e | ⟨g, y, e⟩
  · subst e; cases h
  · subst e
    simp [List.concat_eq_append]
def getZ (kvs : List (Int × Int)) (k : Int) : Option Int := (kvs.find? fun p => decide (p.1 = k)).map (·.2)
def putZ (kvs : List (Int × Int)) (k v : Int) : List (Int × Int) := if (kvs.any fun p => decide (p.1 = k)) = true then kvs.map fun p => if p.1 = k then (p.1, v) else p else kvs ++ [(k, v)]
def dz (kvs : List (Int × Int)) : List (Key × D) := kvs.map fun p => (Sum.inl p.1, D.int p.2)
theorem dz_get (kvs : List (Int × Int)) (k : Int) : getK (dz kvs) (.inl k) = (getZ kvs k).map D.int := by
  unfold getK dz getZ
  induction kvs with
  | nil => rfl
  | cons p ps ih =>
    simp only [List.map_cons, List.find?_cons]
    by_cases h : p.1 = k
    · simp [h]
    · simp only [h, decide_false]
      simpa [h] using ih
theorem dz_any (kvs : List (Int × Int)) (k : Int) : ((dz kvs).any fun kv => decide (kv.1 = Sum.inl k)) = kvs.any fun p => decide (p.1 = k) := by
  unfold dz
  rw [List.any_map]
  congr 1
  funext p
  simp
theorem dz_put (kvs : List (Int × Int)) (k v : Int) : putD (dz kvs) (.inl k) (.int v) = dz (putZ kvs k v) := by
  unfold putD putZ
  rw [dz_any]
  split
  · unfold dz
    rw [List.map_map, List.map_map]
    refine List.map_congr_left fun p _ => ?_
    by_cases h : p.1 = k
    · simp [h]
    · simp [h]
  · simp [dz]
theorem dz_keys : ∀ kvs : List (Int × Int), keysI (dz kvs) = some (kvs.map (·.1))
  | [] => rfl
  | p :: ps => by
    show (keysI (dz ps)).map (p.1 :: ·) = _
    rw [dz_keys ps]
    rfl
theorem dz_len (kvs : List (Int × Int)) : (dz kvs).length = kvs.length := by simp [dz]
theorem putZ_len (kvs : List (Int × Int)) (k v : Int) : (putZ kvs k v).length ≤ kvs.length + 1 := by
  unfold putZ
  split <;> simp
theorem putZ_keys (kvs : List (Int × Int)) (k v : Int) : (putZ kvs k v).map (·.1) = if k ∈ kvs.map (·.1) then kvs.map (·.1) else kvs.map (·.1) ++ [k] := by
  have h : (kvs.any fun p => decide (p.1 = k)) = true ↔ k ∈ kvs.map (·.1) := by
    simp [List.any_eq_true, List.mem_map]
  unfold putZ
  by_cases hm : k ∈ kvs.map (·.1)
  · rw [if_pos (h.mpr hm), if_pos hm, List.map_map]
    refine List.map_congr_left fun p _ => ?_
    by_cases hp : p.1 = k
    · simp [hp]
    · simp [hp]
  · rw [if_neg (fun x => hm (h.mp x)), if_neg hm, List.map_append]
    rfl
theorem putZ_nodup {kvs : List (Int × Int)} (h : (kvs.map (·.1)).Nodup) (k v : Int) : ((putZ kvs k v).map (·.1)).Nodup := by
  rw [putZ_keys]
  split
  · exact h
  · rename_i hm
    refine List.nodup_append.mpr ⟨h, by simp, fun a ha b hb => ?_⟩
    rw [List.mem_singleton] at hb
    subst hb
    intro e
    subst e
    exact hm ha
theorem mem_putZ {kvs : List (Int × Int)} {k v j : Int} : j ∈ (putZ kvs k v).map (·.1) ↔ j = k ∨ j ∈ kvs.map (·.1) := by
  rw [putZ_keys]
  split
  · rename_i h
    constructor
    · exact .inr
    · rintro (rfl | h')
      · exact h
      · exact h'
  · rw [List.mem_append, List.mem_singleton]
    exact or_comm
theorem getZ_none {kvs : List (Int × Int)} {k : Int} : getZ kvs k = none ↔ k ∉ kvs.map (·.1) := by
  unfold getZ
  rw [Option.map_eq_none_iff, List.find?_eq_none]
  constructor
  · intro h hm
    obtain ⟨p, hp, e⟩ := List.mem_map.mp hm
    exact h p hp (by simpa using e)
  · intro h p hp e
    exact h (List.mem_map.mpr ⟨p, hp, by simpa using e⟩)
theorem getZ_some_iff {kvs : List (Int × Int)} {k : Int} : (getZ kvs k).isSome = true ↔ k ∈ kvs.map (·.1) := by
  have := getZ_none (kvs := kvs) (k := k)
  cases h : getZ kvs k with
  | none => simp [this.mp h]
  | some v =>
    rw [h] at this
    simp only [Option.isSome_some, true_iff]
    exact Classical.not_not.mp fun x => by simpa using this.mpr x
theorem getZ_put (kvs : List (Int × Int)) (k v j : Int) : getZ (putZ kvs k v) j = if j = k then some v else getZ kvs j := by
  induction kvs with
  | nil =>
    by_cases h : j = k
    · subst h; simp [putZ, getZ]
    · simp [putZ, getZ, h, Ne.symm h]
  | cons p ps ih =>
    by_cases hp : p.1 = k
    · have e : putZ (p :: ps) k v = (p.1, v) :: ps.map (fun q => if q.1 = k then (q.1, v) else q) := by
        simp [putZ, hp]
      rw [e]
      by_cases h : j = k
      · subst h; simp [getZ, hp]
      · have : ¬ p.1 = j := fun x => h (by rw [← x, hp])
        simp only [h, if_false, getZ, List.find?_cons, this, decide_false]
        congr 1
        clear ih e
        induction ps with
        | nil => rfl
        | cons q qs ih2 =>
          rw [List.map_cons, List.find?_cons, List.find?_cons]
          by_cases hq : q.1 = k
          · have : ¬ q.1 = j := fun x => h (by rw [← x, hq])
            simp only [hq, if_true, show ¬ k = j from fun x => h x.symm, decide_false, ih2]
          · simp only [hq, if_false]
            by_cases hj : q.1 = j
            · simp only [hj, decide_true]
            · simp only [hj, decide_false, ih2]
    · have e : putZ (p :: ps) k v = p :: putZ ps k v := by
        simp only [putZ, List.any_cons, hp, decide_false, Bool.false_or, List.map_cons, if_false, List.cons_append]
        split <;> rfl
      rw [e]
      by_cases hj : p.1 = j
      · subst hj
        simp [getZ, hp]
      · have : getZ (p :: putZ ps k v) j = getZ (putZ ps k v) j := by simp [getZ, hj]
        rw [this, ih]
        have : getZ (p :: ps) j = getZ ps j := by simp [getZ, hj]
        rw [this]
/-- what stands there is put again -/
theorem putZ_same {kvs : List (Int × Int)} (h : (kvs.map (·.1)).Nodup) {k v : Int} (e : getZ kvs k = some v) : putZ kvs k v = kvs := by
  have hm : k ∈ kvs.map (·.1) := getZ_some_iff.mp (by rw [e]; rfl)
  unfold putZ
  rw [if_pos (by simpa [List.any_eq_true] using hm)]
  have : ∀ (l : List (Int × Int)), (l.map (·.1)).Nodup → getZ l k = some v → l.map (fun p => if p.1 = k then (p.1, v) else p) = l := by
    intro l
    induction l with
    | nil => intro _ _; rfl
    | cons p ps ih =>
      intro hn he
      rw [List.map_cons, List.nodup_cons] at hn
      rw [List.map_cons]
      by_cases hp : p.1 = k
      · have e2 : v = p.2 := by simpa [getZ, hp] using he.symm
        have e3 : ps.map (fun p => if p.1 = k then (p.1, v) else p) = ps := by
          conv => rhs; rw [← List.map_id ps]
          refine List.map_congr_left fun q hq => ?_
          have : ¬ q.1 = k := fun x => hn.1 (by rw [hp, ← x]; exact List.mem_map_of_mem hq)
          simp [this]
        rw [e3, if_pos hp, e2]
      · rw [if_neg hp, ih hn.2 (by simpa [getZ, hp] using he)]
  exact this kvs h e
theorem stD_dct {S : Sto} {n : Nat} {d : List (Int × Int)} {k v : Int} (hat : S[n]? = some (.dct (dz d))) (hd : d.length < 1000000) : stD (.ref n) (.int k) (.int v) S = some (S.set n (.dct (dz (putZ d k v)))) := by
  simp only [stD, hat, Pu.keyOf, Option.bind_some]
  rw [if_pos (sz (by rw [dz_len]; omega)), dz_put]
theorem ixD_dct {S : Sto} {o : D} {d : List (Int × Int)} {k v : Int} (hat : dcOf S o = some (dz d)) (hv : getZ d k = some v) : ixD o (.int k) S = .ok (.int v) S := by
  simp only [ixD, hat, Pu.keyOf, dz_get, hv, Option.map_some, opt_some]
theorem dcR {S : Sto} {n : Nat} {d : List (Key × D)} (hat : S[n]? = some (.dct d)) : dcOf S (.ref n) = some d := by simp only [dcOf, hat]
theorem get_dz (d : List (Int × Int)) (k z : Int) : (getK (dz d) (.inl k)).getD (.int z) = .int ((getZ d k).getD z) := by
  rw [dz_get]
  cases getZ d k <;> rfl
theorem inD_dct {S : Sto} {o : D} {d : List (Int × Int)} {k : Int} {neg : Bool} (hat : dcOf S o = some (dz d)) : inD neg (.int k) o S = .ok (.bl (if neg = true then !(getZ d k).isSome else (getZ d k).isSome)) S := by
  have e : (getK (dz d) (.inl k)).isSome = (getZ d k).isSome := by
    rw [dz_get]
    cases getZ d k <;> rfl
  simp only [inD, hat, Pu.keyOf, e]
/-- two dicts at the end of the store -/
theorem two_at0 {S : Sto} {a b : DO} : (S ++ [a, b])[S.length]? = some a := by simp
theorem two_at1 {S : Sto} {a b : DO} : (S ++ [a, b])[S.length + 1]? = some b := by simp
theorem two_set0 {S : Sto} {a b c : DO} : (S ++ [a, b]).set S.length c = S ++ [c, b] := by simp
theorem two_set1 {S : Sto} {a b c : DO} : (S ++ [a, b]).set (S.length + 1) c = S ++ [a, c] := by simp
theorem frz_dz {n : Nat} {S : Sto} {f : Nat} : ∀ d : List (Int × Int), allSome ((dz d).map fun p => (frzV n S (f + 1) p.2).map fun y => (p.1, y)) = some (dz d)
  | [] => rfl
  | p :: ps => by
    have h := frz_dz (n := n) (S := S) (f := f) ps
    have e : frzV n S (f + 1) (D.int p.2) = some (.int p.2) := by
      unfold frzV
      rfl
    have e2 : dz (p :: ps) = (Sum.inl p.1, D.int p.2) :: dz ps := rfl
    rw [e2, List.map_cons]
    simp only [e, Option.map_some, allSome, h]
theorem fin_2d {S : Sto} {a b : List (Int × Int)} : fin .frz S (.tup [.ref S.length, .ref (S.length + 1)]) (S ++ [.dct (dz a), .dct (dz b)]) = .ok (.tup [.dct (dz a), .dct (dz b)]) S := by
  have h0 : frzV S.length (S ++ [.dct (dz a), .dct (dz b)]) 5 (.ref S.length) = some (.dct (dz a)) := by
    unfold frzV
    rw [if_neg (by simp [D.bel])]
    simp only [two_at0]
    rw [frz_dz]
    rfl
  have h1 : frzV S.length (S ++ [.dct (dz a), .dct (dz b)]) 5 (.ref (S.length + 1)) = some (.dct (dz b)) := by
    unfold frzV
    rw [if_neg (by simp [D.bel])]
    simp only [two_at1]
    rw [frz_dz]
    rfl
  simp only [fin]
  rw [if_pos .app]
  unfold frzV
  rw [if_neg (by simp [D.bel])]
  simp only [List.map_cons, List.map_nil, h0, h1, allSome, Option.map_some, opt_some, List.take_left]
theorem p10_50 {S : Sto} : powD (.int 10) (.int 50) S = .ok (.int (10 ^ 50)) S := powD_ok (by decide)
theorem p10_30 {S : Sto} : powD (.int 10) (.int 30) S = .ok (.int (10 ^ 30)) S := powD_ok (by decide)
theorem lp1 : ∀ p ∈ ([1, 10, 10 ^ 50] : List Int), 0 < p ∧ p.natAbs.log2 < 9000 := by
  intro p hp
  simp only [List.mem_cons, List.not_mem_nil, or_false] at hp
  rcases hp with rfl | rfl | rfl <;> decide +kernel
theorem lp2 : ∀ p ∈ ([1, 7, 10 ^ 30] : List Int), 0 < p ∧ p.natAbs.log2 < 9000 := by
  intro p hp
  simp only [List.mem_cons, List.not_mem_nil, or_false] at hp
  rcases hp with rfl | rfl | rfl <;> decide +kernel
theorem lp3 : ∀ p ∈ ([1, 4, 4, 10 ^ 57] : List Int), 0 < p ∧ p.natAbs.log2 < 9000 := by
  intro p hp
  simp only [List.mem_cons, List.not_mem_nil, or_false] at hp
  rcases hp with rfl | rfl | rfl | rfl <;> decide +kernel
/-- .. with what is known of it -/
theorem take_of2 {S : Sto} {k : Nat} {c m : Int} (ms : List Int) {n : Nat} (hn : ms.length = n) (h0 : 0 < n) (h9 : n < 9000) (hp : ∀ p ∈ ms, 0 < p ∧ p.natAbs.log2 < 9000) (h : k < S.length) (hc : 0 ≤ c) : ∃ (j : Nat) (d p c1 m1 c2 m2 : Int), p ∈ ms ∧ 0 ≤ d ∧ d < p ∧ 0 ≤ c2 ∧ F_law_take [.ref k, .int n] (Bg S k c m) = .ok (.int j) (Bg S k c1 m1) ∧ atI (ms.map D.int) (j : Int) = some (.int p) ∧ F_law_take [.ref k, .int p] (Bg S k c1 m1) = .ok (.int d) (Bg S k c2 m2) := by
  obtain ⟨j, c1, m1, hj, hc1, q1⟩ := takeN (many := n) (m := m) h hc h0 h9
  obtain ⟨p1, p2⟩ := hp (ms[j]'(by omega)) (List.getElem_mem _)
  obtain ⟨d, c2, m2, hd, hdp, hc2, q2⟩ := take (m := m1) h hc1 p1 p2
  exact ⟨j, d, _, c1, m1, c2, m2, List.getElem_mem (by omega), hd, hdp, hc2, q1, by rw [atI_cast]; simp [show j < ms.length by omega], q2⟩
theorem inT_ints {k : Int} {xs : List Int} {neg : Bool} {S : Sto} : inD neg (.int k) (intsT xs) S = .ok (.bl (if neg = true then !decide (k ∈ xs) else decide (k ∈ xs))) S := by
  have h1 : (xs.map D.int).all flatD = true := by
    rw [List.all_eq_true]
    intro d hd
    obtain ⟨i, _, e⟩ := List.mem_map.mp hd
    subst e
    rfl
  have h2 : ((xs.map D.int).any fun z => fEq z (.int k)) = decide (k ∈ xs) := by
    rw [List.any_map]
    by_cases h : k ∈ xs
    · rw [decide_eq_true h, List.any_eq_true]
      exact ⟨k, h, by show (k == k) = true; simp⟩
    · rw [decide_eq_false h, List.any_eq_false]
      intro i hi
      show ¬ (i == k) = true
      intro e
      exact h (by rw [← of_decide_eq_true e]; exact hi)
  show inD neg (.int k) (.tup (xs.map D.int)) S = _
  unfold inD
  simp only [dcOf]
  rw [if_pos ⟨rfl, h1⟩, h2]
theorem inL_ints {k : Int} {xs : List Int} {neg : Bool} {S : Sto} : inD neg (.int k) (.lst (xs.map D.int)) S = .ok (.bl (if neg = true then !decide (k ∈ xs) else decide (k ∈ xs))) S := by
  have h1 : SeqAt.shaped (.list (pys (xs.map D.int))) = true := by
    have := (Rp.int.ls).shp (by decide) xs S
    simpa [Pu.shp, lsD, pyOf, D.py] using this
  have h2 : ((pys (xs.map D.int)).any fun z => PyData.eqv z (D.int k).py) = decide (k ∈ xs) := by
    induction xs with
    | nil => rfl
    | cons x xs ih =>
      have ih := ih (by
        have := (Rp.int.ls).shp (by decide) xs S
        simpa [Pu.shp, lsD, pyOf, D.py] using this)
      rw [List.map_cons]
      show (PyData.eqv (D.int x).py (D.int k).py || (pys (xs.map D.int)).any _) = _
      rw [ih]
      have : PyData.eqv (D.int x).py (D.int k).py = decide (x = k) := by
        by_cases e : x = k
        · rw [decide_eq_true e]; exact (Rp.int.1 x k).mpr e
        · rw [decide_eq_false e]
          refine Bool.eq_false_iff.mpr fun h => e ((Rp.int.1 x k).mp h)
      rw [this]
      by_cases e : x = k
      · simp [e]
      · simp [e, show ¬ k = x from fun z => e z.symm]
  unfold inD
  simp only [dcOf, lsOf]
  rw [if_pos ⟨rfl, h1⟩, h2]
abbrev E26 : Int := 596216567187872108348956733961803993281
theorem p31 {S : Sto} : powD (.int 31) (.int 26) S = .ok (.int 596216567187872108348956733961803993281) S := powD_ok (by decide)
def kd : D → Bool
  | .int _ => true
  | .bl _ => true
  | .str _ => true
  | .non => true
  | .tup _ => true
  | .lst _ => true
  | _ => false
def whB : D → Bool
  | .int _ => true
  | _ => false
def strB : D → Bool
  | .int a => if 0 ≤ a then decide (a < 31) else false
  | _ => false
def hsB : D → Bool
  | .int a => if 1 ≤ a then decide (a < 596216567187872108348956733961803993281) else false
  | _ => false
def stp : List Int := [1, 2, -1, -2]
def rchI (b c s : Int) : Bool := if s = 1 then decide (b ≤ c) else if s = 2 then decide (b ≤ c ∧ (c - b) % 2 = 0) else if s = -1 then decide (c ≤ b) else decide (c ≤ b ∧ (c - b) % 2 = 0)
def runB : D → Bool
  | .tup [x0, x1, x2, x3] => strB x0 && (hsB x1 && (hsB x2 && (match x1, x2, x3 with
    | .int b, .int c, .int s => decide (s ∈ stp) && rchI b c s
    | _, _, _ => false)))
  | _ => false
theorem whole_is (d : D) (h : kd d = true) (S : Sto) : Fis_whole [d] S = .ok (.bl (whB d)) S := by
  cases d <;> first | (cases h; done) | (simp only [Fis_whole, runD, bis_whole, go0, goS, goT, Bool.not_false, Bool.not_true, whB]; exact fin_same rfl)
theorem street_is (d : D) (h : kd d = true) (S : Sto) : Fis_street [d] S = .ok (.bl (strB d)) S := by
  have w := whole_is d h S
  cases d with
  | int a =>
    simp only [whB] at w
    by_cases h0 : 0 ≤ a
    · simp only [Fis_street, runD, bis_street, go0, goS, w, leD_i, ltD_i, h0, decide_true, strB, if_true]
      exact fin_same rfl
    · simp only [Fis_street, runD, bis_street, go0, goS, w, leD_i, ltD_i, h0, decide_false, strB, if_false]
      exact fin_same rfl
  | _ => first | (cases h; done) | (simp only [Fis_street, runD, bis_street, go0, goS, w, whB, strB]; exact fin_same rfl)
theorem house_is (d : D) (h : kd d = true) (S : Sto) : Fis_house [d] S = .ok (.bl (hsB d)) S := by
  have w := whole_is d h S
  cases d with
  | int a =>
    simp only [whB] at w
    have e : decide (a ≤ 596216567187872108348956733961803993280) = decide (a < 596216567187872108348956733961803993281) := by
      rw [decide_eq_decide]
      omega
    by_cases h0 : 1 ≤ a
    · simp only [Fis_house, runD, bis_house, go0, goS, w, leD_i, ltD_i, h0, decide_true, hsB, if_true, e]
      exact fin_same rfl
    · simp only [Fis_house, runD, bis_house, go0, goS, w, leD_i, ltD_i, h0, decide_false, hsB, if_false]
      exact fin_same rfl
  | _ => first | (cases h; done) | (simp only [Fis_house, runD, bis_house, go0, goS, w, whB, hsB]; exact fin_same rfl)
theorem modD_ok {i j : Int} {S : Sto} (h : j ≠ 0) : modD (.int i) (.int j) S = .ok (.int (fmodI i j)) S := if_pos h
theorem fdivD_ok {i j : Int} {S : Sto} (h : DivOk i j) : fdivD (.int i) (.int j) S = .ok (.int (fdivI i j)) S := if_pos h
theorem stp_cases {s : Int} (h : s ∈ stp) : s = 1 ∨ s = 2 ∨ s = -1 ∨ s = -2 := by
  simp only [stp, List.mem_cons, List.not_mem_nil, or_false] at h
  exact h
theorem bl_eq {b c : Bool} (h : b = c) {S : Sto} : Res.ok (D.bl b) S = .ok (.bl c) S := by rw [h]
theorem reached_is (b c s : Int) (hs : s ∈ stp) (S : Sto) : Fis_reached [.int b, .int c, .int s] S = .ok (.bl (rchI b c s)) S := by
  have key : ∀ s : Int, s ≠ 0 → DivOk (c - b) s → Fis_reached [.int b, .int c, .int s] S = .ok (.bl (decide (fmodI (c - b) s = 0) && decide (0 ≤ fdivI (c - b) s))) S := fun s h1 h2 => by
    by_cases h : fmodI (c - b) s = 0
    · simp only [Fis_reached, runD, bis_reached, go0, goS, subD_i, modD_ok h1, eqD_int, h, decide_true, fdivD_ok h2, geD_i, Bool.true_and]
      exact fin_same rfl
    · simp only [Fis_reached, runD, bis_reached, go0, goS, subD_i, modD_ok h1, eqD_int, h, decide_false, Bool.false_and]
      exact fin_same rfl
  rcases stp_cases hs with rfl | rfl | rfl | rfl
  · rw [key 1 (by decide) (.inr ⟨by decide, by decide⟩)]
    refine bl_eq ?_
    unfold rchI fmodI fdivI
    rw [if_pos (by decide), if_pos (by decide), if_pos rfl, Bool.eq_iff_iff]
    simp only [Bool.and_eq_true, decide_eq_true_eq]
    omega
  · rw [key 2 (by decide) (.inr ⟨by decide, by decide⟩)]
    refine bl_eq ?_
    unfold rchI fmodI fdivI
    rw [if_pos (by decide), if_pos (by decide), if_neg (by decide), if_pos rfl, Bool.eq_iff_iff]
    simp only [Bool.and_eq_true, decide_eq_true_eq]
    omega
  · rw [key (-1) (by decide) (.inr ⟨by decide, by decide⟩)]
    refine bl_eq ?_
    unfold rchI fmodI fdivI
    rw [if_neg (by decide), if_neg (by decide), if_neg (by decide), if_neg (by decide), if_pos rfl, Bool.eq_iff_iff]
    simp only [Bool.and_eq_true, decide_eq_true_eq, Int.neg_neg]
    omega
  · rw [key (-2) (by decide) (.inr ⟨by decide, by decide⟩)]
    refine bl_eq ?_
    unfold rchI fmodI fdivI
    rw [if_neg (by decide), if_neg (by decide), if_neg (by decide), if_neg (by decide), if_neg (by decide), Bool.eq_iff_iff]
    simp only [Bool.and_eq_true, decide_eq_true_eq, Int.neg_neg]
    omega
/-- good things: their kind is told by what they are -/
def Gd (d : D) : Prop := kd d = true ∧ ∀ xs, d = .tup xs → ∀ x ∈ xs, kd x = true
theorem four {α : Type} {xs : List α} (h : xs.length = 4) : ∃ a b c d, xs = [a, b, c, d] := by
  match xs, h with
  | [a, b, c, d], _ => exact ⟨a, b, c, d, rfl⟩
theorem runB_not {d : D} (h : ∀ xs, d = .tup xs → xs.length ≠ 4) : runB d = false := by
  cases d with
  | tup xs =>
    have := h xs rfl
    match xs, this with
    | [], _ => rfl
    | [_], _ => rfl
    | [_, _], _ => rfl
    | [_, _, _], _ => rfl
    | [_, _, _, _], h => exact absurd rfl h
    | _ :: _ :: _ :: _ :: _ :: _, _ => rfl
  | _ => rfl
theorem inT4 {s : Int} {S : Sto} : inD true (.int s) (.tup [.int 1, .int 2, .int (-1), .int (-2)]) S = .ok (.bl (!decide (s ∈ stp))) S := inT_ints (xs := stp)
theorem run_is (d : D) (h : Gd d) (S : Sto) : Fis_run [d] S = .ok (.bl (runB d)) S := by
  obtain ⟨h1, h2⟩ := h
  cases d with
  | tup xs =>
    by_cases hl : xs.length = 4
    · obtain ⟨x0, x1, x2, x3, rfl⟩ := four hl
      have k0 := h2 _ rfl x0 (by simp)
      have k1 := h2 _ rfl x1 (by simp)
      have k2 := h2 _ rfl x2 (by simp)
      have k3 := h2 _ rfl x3 (by simp)
      have i0 : atI [x0, x1, x2, x3] 0 = some x0 := rfl
      have i1 : atI [x0, x1, x2, x3] 1 = some x1 := rfl
      have i2 : atI [x0, x1, x2, x3] 2 = some x2 := rfl
      have i3 : atI [x0, x1, x2, x3] 3 = some x3 := rfl
      have ln : lenD [.tup [x0, x1, x2, x3]] S = .ok (.int 4) S := rfl
      cases e0 : strB x0 with
      | false =>
        simp only [Fis_run, runD, bis_run, go0, goS, is_tup_tup, Bool.not_true, ln, neD_int, decide_true, ixD_tup, i0, street_is x0 k0, e0, Bool.not_false, runB, Bool.false_and]
        exact fin_same rfl
      | true =>
        cases e1 : hsB x1 with
        | false =>
          simp only [Fis_run, runD, bis_run, go0, goS, is_tup_tup, Bool.not_true, ln, neD_int, decide_true, ixD_tup, i0, i1, street_is x0 k0, house_is x1 k1, e0, e1, Bool.not_false, runB, Bool.false_and, Bool.true_and]
          exact fin_same rfl
        | true =>
          cases e2 : hsB x2 with
          | false =>
            simp only [Fis_run, runD, bis_run, go0, goS, is_tup_tup, Bool.not_true, ln, neD_int, decide_true, ixD_tup, i0, i1, i2, street_is x0 k0, house_is x1 k1, house_is x2 k2, e0, e1, e2, Bool.not_false, runB, Bool.false_and, Bool.true_and]
            exact fin_same rfl
          | true =>
            obtain ⟨b, rfl⟩ : ∃ b, x1 = .int b := by cases x1 <;> first | exact ⟨_, rfl⟩ | (simp [hsB] at e1)
            obtain ⟨c, rfl⟩ : ∃ c, x2 = .int c := by cases x2 <;> first | exact ⟨_, rfl⟩ | (simp [hsB] at e2)
            cases x3 with
            | int s =>
              have w := whole_is (.int s) rfl S
              simp only [whB] at w
              by_cases hs : s ∈ stp
              · have rr := reached_is b c s hs S
                simp only [Fis_run, runD, bis_run, go0, goS, is_tup_tup, Bool.not_true, ln, neD_int, decide_true, ixD_tup, i0, i1, i2, i3, street_is x0 k0, house_is _ k1, house_is _ k2, e0, e1, e2, w, inT4, hs, rr, runB, Bool.true_and]
                exact fin_same rfl
              · simp only [Fis_run, runD, bis_run, go0, goS, is_tup_tup, Bool.not_true, ln, neD_int, decide_true, ixD_tup, i0, i1, i2, i3, street_is x0 k0, house_is _ k1, house_is _ k2, e0, e1, e2, w, inT4, hs, decide_false, Bool.not_false, runB, Bool.true_and, Bool.false_and]
                exact fin_same rfl
            | _ =>
              have w := whole_is _ k3 S
              simp only [whB] at w
              simp only [Fis_run, runD, bis_run, go0, goS, is_tup_tup, Bool.not_true, ln, neD_int, decide_true, ixD_tup, i0, i1, i2, i3, street_is x0 k0, house_is _ k1, house_is _ k2, e0, e1, e2, w, Bool.not_false, runB, Bool.and_false]
              exact fin_same rfl
    · have ln : ¬ (xs.length : Int) = 4 := by omega
      rw [runB_not fun ys e => by cases e; exact hl]
      simp only [Fis_run, runD, bis_run, go0, goS, is_tup_tup, Bool.not_true, lenD_tup, neD_int, ln, decide_false, Bool.not_false]
      exact fin_same rfl
  | _ => first | (cases h1; done) | (simp only [Fis_run, runD, bis_run, go0, goS, goT, Bool.not_false, runB]; exact fin_same rfl)
theorem min_I (i j : Int) : minI i j = min i j := by
  unfold minI
  split <;> omega
theorem max_I (i j : Int) : maxI i j = max i j := by
  unfold maxI
  split <;> omega
theorem enum_map {α : Type} (f : α → D) (xs : List α) (z : α) : enumL (xs.map f) = (List.range xs.length).map fun i => .tpi [.int (i : Nat), f (xs[i]?.getD z)] := by
  unfold enumL
  rw [List.length_map]
  refine List.map_congr_left fun i hi => ?_
  have hi := List.mem_range.mp hi
  simp [hi]
abbrev Rn := Int × Int × Int × Int
def rnD (r : Rn) : D := .tup [.int r.1, .int r.2.1, .int r.2.2.1, .int r.2.2.2]
def RnOk (r : Rn) : Prop := 0 ≤ r.1 ∧ r.1 < 31 ∧ 1 ≤ r.2.1 ∧ r.2.1 < 596216567187872108348956733961803993281 ∧ 1 ≤ r.2.2.1 ∧ r.2.2.1 < 596216567187872108348956733961803993281 ∧ r.2.2.2 ∈ stp ∧ ∃ n : Nat, r.2.2.1 = r.2.1 + n * r.2.2.2
/-- whether a number stands in a run -/
def hasR (r : Rn) (n : Int) : Prop := min r.2.1 r.2.2.1 ≤ n ∧ n ≤ max r.2.1 r.2.2.1 ∧ (n - r.2.1) % (r.2.2.2.natAbs : Nat) = 0
instance (r : Rn) (n : Int) : Decidable (hasR r n) := by unfold hasR; infer_instance
def plc1 (r : Rn) (n : Int) : Option Int := if hasR r n then some (fdivI (n - r.2.1) r.2.2.2) else none
def oD : Option Int → D
  | some i => .int i
  | none => .non
theorem stepN0 {s : Int} (h : s ∈ stp) : s ≠ 0 := by
  rcases stp_cases h with rfl | rfl | rfl | rfl <;> decide
theorem divOk {s : Int} (i : Int) (h : s ∈ stp) : DivOk i s := by
  rcases stp_cases h with rfl | rfl | rfl | rfl <;> exact .inr ⟨by decide, by decide⟩
def hsR (r : Rn) : Int := fdivI (r.2.2.1 - r.2.1) r.2.2.2 + 1
theorem houses_is (r : Rn) (h : RnOk r) (S : Sto) : Fhouses [rnD r] S = .ok (.int (hsR r)) S := by
  have bt : bindT (.tp [(.nm 1), (.nm 2), (.nm 3), (.nm 4)]) (rnD r) [some (rnD r), none, none, none, none] = some [some (rnD r), some (.int r.1), some (.int r.2.1), some (.int r.2.2.1), some (.int r.2.2.2)] := rfl
  have dv : fdivD (.int (r.2.2.1 - r.2.1)) (.int r.2.2.2) S = .ok (.int (fdivI (r.2.2.1 - r.2.1) r.2.2.2)) S := fdivD_ok (divOk _ h.2.2.2.2.2.2.1)
  simp only [Fhouses, runD, bhouses, go0, goS, bt, subD_i, dv, addD_int]
  exact fin_same rfl
theorem has_iff {r : Rn} (h : RnOk r) (n : Int) : hasR r n ↔ fmodI (n - r.2.1) r.2.2.2 = 0 ∧ 0 ≤ fdivI (n - r.2.1) r.2.2.2 ∧ fdivI (n - r.2.1) r.2.2.2 < hsR r := by
  obtain ⟨s, f, l, t⟩ := r
  obtain ⟨_, _, _, _, _, _, ht, m, hm⟩ := h
  simp only at hm ht
  unfold hasR hsR fmodI fdivI
  simp only
  rcases stp_cases ht with rfl | rfl | rfl | rfl
  · rw [if_pos (by decide), if_pos (by decide), if_pos (by decide), show ((1 : Int).natAbs : Int) = 1 from rfl]; omega
  · rw [if_pos (by decide), if_pos (by decide), if_pos (by decide), show ((2 : Int).natAbs : Int) = 2 from rfl]; omega
  · rw [if_neg (by decide), if_neg (by decide), if_neg (by decide), Int.neg_neg, show ((-1 : Int).natAbs : Int) = 1 from rfl]; omega
  · rw [if_neg (by decide), if_neg (by decide), if_neg (by decide), Int.neg_neg, show ((-2 : Int).natAbs : Int) = 2 from rfl]; omega
theorem placein_is (r : Rn) (h : RnOk r) (n : Int) (S : Sto) : Fplace_in [rnD r, .int n] S = .ok (oD (plc1 r n)) S := by
  have hs := h.2.2.2.2.2.2.1
  have bt : bindT (.tp [(.nm 2), (.nm 3), (.nm 4), (.nm 5)]) (rnD r) [some (rnD r), some (.int n), none, none, none, none, none] = some [some (rnD r), some (.int n), some (.int r.1), some (.int r.2.1), some (.int r.2.2.1), some (.int r.2.2.2), none] := rfl
  have md : modD (.int (n - r.2.1)) (.int r.2.2.2) S = .ok (.int (fmodI (n - r.2.1) r.2.2.2)) S := modD_ok (stepN0 hs)
  have dv : fdivD (.int (n - r.2.1)) (.int r.2.2.2) S = .ok (.int (fdivI (n - r.2.1) r.2.2.2)) S := fdivD_ok (divOk _ hs)
  have hh := houses_is r h S
  have key := has_iff h n
  unfold plc1
  by_cases h1 : fmodI (n - r.2.1) r.2.2.2 = 0
  · by_cases h2 : 0 ≤ fdivI (n - r.2.1) r.2.2.2
    · by_cases h3 : fdivI (n - r.2.1) r.2.2.2 < hsR r
      · rw [if_pos (key.mpr ⟨h1, h2, h3⟩)]
        simp only [Fplace_in, runD, bplace_in, go0, goS, bt, subD_i, md, h1, neD_int, decide_true, Bool.not_true, dv, leD_i, h2, hh, ltD_i, h3, oD]
        exact fin_same rfl
      · rw [if_neg fun e => h3 (key.mp e).2.2]
        simp only [Fplace_in, runD, bplace_in, go0, goS, bt, subD_i, md, h1, neD_int, decide_true, Bool.not_true, dv, leD_i, h2, hh, ltD_i, h3, decide_false, oD]
        exact fin_same rfl
    · rw [if_neg fun e => h2 (key.mp e).2.1]
      simp only [Fplace_in, runD, bplace_in, go0, goS, bt, subD_i, md, h1, neD_int, decide_true, Bool.not_true, dv, leD_i, h2, decide_false, oD]
      exact fin_same rfl
  · rw [if_neg fun e => h1 (key.mp e).1]
    simp only [Fplace_in, runD, bplace_in, go0, goS, bt, subD_i, md, neD_int, h1, decide_false, Bool.not_false, oD]
    exact fin_same rfl
/-- the least number of two runs -/
def lowR (r q : Rn) : Int := max (min r.2.1 r.2.2.1) (min q.2.1 q.2.2.1)
def shR (r q : Rn) : Option Int := if r.1 ≠ q.1 then none else if hasR r (lowR r q) ∧ hasR q (lowR r q) then some (lowR r q) else if hasR r (lowR r q + 1) ∧ hasR q (lowR r q + 1) then some (lowR r q + 1) else none
theorem shared_is (r q : Rn) (hr : RnOk r) (hq : RnOk q) (S : Sto) : Fleast_shared [rnD r, rnD q] S = .ok (oD (shR r q)) S := by
  have i0 : ixD (rnD r) (.int 0) S = .ok (.int r.1) S := rfl
  have i1 : ixD (rnD r) (.int 1) S = .ok (.int r.2.1) S := rfl
  have i2 : ixD (rnD r) (.int 2) S = .ok (.int r.2.2.1) S := rfl
  have j0 : ixD (rnD q) (.int 0) S = .ok (.int q.1) S := rfl
  have j1 : ixD (rnD q) (.int 1) S = .ok (.int q.2.1) S := rfl
  have j2 : ixD (rnD q) (.int 2) S = .ok (.int q.2.2.1) S := rfl
  have mi : ∀ i j : Int, ii2D minI [.int i, .int j] S = .ok (.int (min i j)) S := fun i j => by rw [← min_I]; rfl
  have ma : ∀ i j : Int, ii2D maxI [.int i, .int j] S = .ok (.int (max i j)) S := fun i j => by rw [← max_I]; rfl
  by_cases hs : r.1 = q.1
  · have tn : ∀ n : Int, turn [3] (.nm 3) bleast_shared_1 (.int n) [some (rnD r), some (rnD q), some (.int (lowR r q)), none] S = match (if hasR r n ∧ hasR q n then some (D.int n) else none) with
        | some d => .ret d S
        | none => .next [some (rnD r), some (rnD q), some (.int (lowR r q)), none] S := fun n => by
      have p1 := placein_is r hr n S
      have p2 := placein_is q hq n S
      by_cases h1 : hasR r n
      · have e1 : (oD (plc1 r n)).isN = false := by unfold plc1; rw [if_pos h1]; rfl
        by_cases h2 : hasR q n
        · have e2 : (oD (plc1 q n)).isN = false := by unfold plc1; rw [if_pos h2]; rfl
          rw [if_pos ⟨h1, h2⟩]
          simp only [turn, goS, bleast_shared_1, p1, p2, isND_ap, e1, e2, Bool.not_false, if_true]
        · have e2 : (oD (plc1 q n)).isN = true := by unfold plc1; rw [if_neg h2]; rfl
          rw [if_neg fun e => h2 e.2]
          simp only [turn, goS, bleast_shared_1, p1, p2, isND_ap, e1, e2, Bool.not_false, Bool.not_true, if_true]
      · have e1 : (oD (plc1 r n)).isN = true := by unfold plc1; rw [if_neg h1]; rfl
        rw [if_neg fun e => h1 e.1]
        simp only [turn, goS, bleast_shared_1, p1, isND_ap, e1, Bool.not_true, if_true]
    have lp := for_find (dead := [3]) (tg := .nm 3) (body := bleast_shared_1) (e := [some (rnD r), some (rnD q), some (.int (lowR r q)), none]) (S := S) (ys := [.int (lowR r q), .int (lowR r q + 1)]) D.int (fun n => if hasR r n ∧ hasR q n then some (D.int n) else none) [lowR r q, lowR r q + 1] fun n _ => tn n
    have lp' : forD [3] (.nm 3) (.tmp [.int (lowR r q), .int (lowR r q + 1)]) bleast_shared_1 [.int (lowR r q), .int (lowR r q + 1)] [some (rnD r), some (rnD q), some (.int (lowR r q)), none] S = _ := lp
    have ne : eqD true (.int r.1) (.int q.1) S = .ok (.bl false) S := by rw [neD_int, hs]; simp
    simp only [Fleast_shared, runD, bleast_shared, go0, goS, i0, j0, ne, i1, i2, j1, j2, mi, ma]
    have fs : sFor [3] (.nm 3) (iS (eTup [(eVar 2), (e2 addD (eVar 2) (eC (.int 1)))])) bleast_shared_1 [some (rnD r), some (rnD q), some (.int (max (min r.2.1 r.2.2.1) (min q.2.1 q.2.2.1))), none] S = forD [3] (.nm 3) (.tmp [.int (lowR r q), .int (lowR r q + 1)]) bleast_shared_1 [.int (lowR r q), .int (lowR r q + 1)] [some (rnD r), some (rnD q), some (.int (lowR r q)), none] S := forS_tup (by simp only [goS, addD_int]; rfl)
    rw [fs, lp']
    unfold shR
    rw [if_neg (by simpa using hs)]
    simp only [List.findSome?_cons, List.findSome?_nil]
    by_cases h1 : hasR r (lowR r q) ∧ hasR q (lowR r q)
    · rw [if_pos h1, if_pos h1]
      simp only [goS]
      exact fin_same rfl
    · rw [if_neg h1, if_neg h1]
      by_cases h2 : hasR r (lowR r q + 1) ∧ hasR q (lowR r q + 1)
      · rw [if_pos h2, if_pos h2]
        simp only [goS]
        exact fin_same rfl
      · rw [if_neg h2, if_neg h2]
        simp only [goS]
        exact fin_same rfl
  · have ne : eqD true (.int r.1) (.int q.1) S = .ok (.bl true) S := by rw [neD_int]; simp [hs]
    simp only [Fleast_shared, runD, bleast_shared, go0, goS, i0, j0, ne]
    unfold shR
    rw [if_pos hs]
    exact fin_same rfl
/-- where neither the low number nor the next one is in both, none is -/
theorem no_shared {r q : Rn} (hr : RnOk r) (hq : RnOk q) {c : Int} (h1 : hasR r c) (h2 : hasR q c) : (hasR r (lowR r q) ∧ hasR q (lowR r q)) ∨ (hasR r (lowR r q + 1) ∧ hasR q (lowR r q + 1)) := by
  obtain ⟨s, f, l, t⟩ := r
  obtain ⟨s', f', l', t'⟩ := q
  obtain ⟨_, _, _, _, _, _, ht, m, hm⟩ := hr
  obtain ⟨_, _, _, _, _, _, ht', m', hm'⟩ := hq
  simp only at hm hm' ht ht'
  unfold hasR lowR at *
  simp only at *
  have two : ∀ t : Int, t ∈ stp → ((t.natAbs : Int) = 1) ∨ ((t.natAbs : Int) = 2) := fun t ht => by
    rcases stp_cases ht with rfl | rfl | rfl | rfl
    · exact .inl rfl
    · exact .inr rfl
    · exact .inl rfl
    · exact .inr rfl
  have par : ∀ (t f l : Int) (m : Nat), t ∈ stp → l = f + m * t → (t.natAbs : Int) = 2 → (l - f) % 2 = 0 := fun t f l m ht hm h2 => by
    rcases stp_cases ht with rfl | rfl | rfl | rfl
    · exact absurd h2 (by decide)
    · omega
    · exact absurd h2 (by decide)
    · omega
  rcases two t ht with e | e <;> rcases two t' ht' with e' | e' <;> rw [e] at h1 ⊢ <;> rw [e'] at h2 ⊢
  · omega
  · have := par t' f' l' m' ht' hm' e'
    omega
  · have := par t f l m ht hm e
    omega
  · have := par t' f' l' m' ht' hm' e'
    have := par t f l m ht hm e
    omega
theorem run_good {r : Rn} (h : RnOk r) : Gd (rnD r) ∧ runB (rnD r) = true := by
  obtain ⟨h0, h1, h2, h3, h4, h5, h6, m, hm⟩ := h
  refine ⟨⟨rfl, fun xs e x hx => ?_⟩, ?_⟩
  · cases e
    simp only [List.mem_cons, List.not_mem_nil, or_false] at hx
    rcases hx with rfl | rfl | rfl | rfl <;> rfl
  · have h7 : rchI r.2.1 r.2.2.1 r.2.2.2 = true := by
      unfold rchI
      rcases stp_cases h6 with e | e | e | e
      · rw [if_pos e]; rw [e] at hm; exact decide_eq_true (by omega)
      · rw [e] at hm; rw [e, if_neg (by decide), if_pos rfl]; exact decide_eq_true (by omega)
      · rw [e] at hm; rw [e, if_neg (by decide), if_neg (by decide), if_pos rfl]; exact decide_eq_true (by omega)
      · rw [e] at hm; rw [e, if_neg (by decide), if_neg (by decide), if_neg (by decide)]; exact decide_eq_true (by omega)
    simp only [rnD, runB, strB, hsB, h0, h1, h2, h3, h4, h5, h6, h7, if_true, decide_true, Bool.and_self]
abbrev Wk := List Rn
def wkD (w : Wk) : D := tpD rnD w
def wsD (ws : List Wk) : D := tpD wkD ws
abbrev Tr := Nat × Nat × Rn
def trD (x : Tr) : D := .tup [.int (x.1 : Nat), .int (x.2.1 : Nat), rnD x.2.2]
def r0 : Rn := (0, 0, 0, 0)
def rowT (ws : List Wk) (i : Nat) : List Tr := (List.range (ws[i]?.getD []).length).map fun j => (i, j, (ws[i]?.getD [])[j]?.getD r0)
def allT (ws : List Wk) : List Tr := (List.range ws.length).flatMap (rowT ws)
def WsOk (ws : List Wk) : Prop := ws.length ≤ 10 ∧ ∀ w ∈ ws, w.length ≤ 20 ∧ ∀ r ∈ w, RnOk r
theorem row_len {ws : List Wk} (h : WsOk ws) (i : Nat) : (rowT ws i).length ≤ 20 := by
  unfold rowT
  rw [List.length_map, List.length_range]
  cases e : ws[i]? with
  | none => simp
  | some w => exact (h.2 w (List.mem_of_getElem? e)).1
theorem allT_len {ws : List Wk} (h : WsOk ws) : (allT ws).length ≤ 200 := by
  have key : ∀ xs : List Nat, (xs.flatMap (rowT ws)).length ≤ 20 * xs.length := by
    intro xs
    induction xs with
    | nil => simp
    | cons x xs ih =>
      have := row_len h x
      rw [List.flatMap_cons, List.length_append, List.length_cons]
      omega
  have := key (List.range ws.length)
  rw [List.length_range] at this
  have := h.1
  unfold allT
  omega
theorem allT_ok {ws : List Wk} (h : WsOk ws) : ∀ x ∈ allT ws, RnOk x.2.2 := by
  intro x hx
  obtain ⟨i, hi, hx⟩ := List.mem_flatMap.mp hx
  obtain ⟨j, hj, rfl⟩ := List.mem_map.mp hx
  have hi := List.mem_range.mp hi
  have hj := List.mem_range.mp hj
  have e : ws[i]?.getD [] = ws[i] := by simp [hi]
  rw [e] at hj ⊢
  have e2 : ws[i][j]?.getD r0 = ws[i][j] := by simp [hj]
  simp only [e2]
  exact (h.2 ws[i] (List.getElem_mem hi)).2 _ (List.getElem_mem hj)
theorem allruns_is (ws : List Wk) (h : WsOk ws) (S : Sto) : Fall_runs [wsD ws] S = .ok (lsD trD (allT ws)) S := by
  have lp : ∀ (is : List Nat) (ys : List D) (acc : List Tr), (∀ i ∈ is, i < ws.length) → acc.length + 20 * is.length < 10000 → forD [2, 3] (.tp [(.nm 2), (.nm 3)]) (.tmp ys) ball_runs_1 (is.map fun i => .tpi [.int (i : Nat), wkD (ws[i]?.getD [])]) [some (wsD ws), some (.ref S.length), none, none, none, none] (S ++ [.lst (acc.map trD)]) = .next [some (wsD ws), some (.ref S.length), none, none, none, none] (S ++ [.lst ((acc ++ is.flatMap (rowT ws)).map trD)]) := by
    intro is ys
    induction is with
    | nil => intro acc _ _; rw [List.flatMap_nil, List.append_nil]; exact forD_nil trivial
    | cons i is ih =>
      intro acc hi hl
      rw [List.length_cons] at hl
      have hrl := row_len h i
      have hat : (S ++ [DO.lst (acc.map trD)])[S.length]? = some (.lst (acc.map trD)) := last_at
      generalize hw : ws[i]?.getD [] = w at *
      have ert : rowT ws i = (List.range w.length).map fun j => (i, j, w[j]?.getD r0) := by unfold rowT; rw [hw]
      have hwl : w.length ≤ 20 := by rw [ert, List.length_map, List.length_range] at hrl; exact hrl
      let E : En := [some (wsD ws), some (.ref S.length), some (.int (i : Nat)), some (wkD w), none, none]
      have lc : nLc [4, 5] (.tp [(.nm 4), (.nm 5)]) (iEA (eVar 3)) tYesD (eTup [(eVar 2), (eVar 4), (eVar 5)]) E (S ++ [DO.lst (acc.map trD)]) = .ok (.lst ((rowT ws i).map trD)) (S ++ [DO.lst (acc.map trD)]) := by
        refine nLcEA_tup (xs := w.map rnD) rfl (by rw [List.length_map]; omega) ?_
        rw [ert, List.map_map]
        conv => lhs; arg 6; rw [enum_map rnD w r0]
        exact lc_all (ys := enumL (w.map rnD)) (tg := .tp [(.nm 4), (.nm 5)]) (f := eTup [(eVar 2), (eVar 4), (eVar 5)]) (e := wipeE E [4, 5]) (S := S ++ [DO.lst (acc.map trD)]) (fun j : Nat => .tpi [.int (j : Nat), rnD (w[j]?.getD r0)]) (trD ∘ fun j => (i, j, w[j]?.getD r0)) (List.range w.length) fun j _ => ⟨[some (wsD ws), some (.ref S.length), some (.int (i : Nat)), some (wkD w), some (.int (j : Nat)), some (rnD (w[j]?.getD r0))], rfl, rfl⟩
      have ex : extD (.ref S.length) [.lst ((rowT ws i).map trD)] (S ++ [DO.lst (acc.map trD)]) = .ok .non (S ++ [DO.lst ((acc ++ rowT ws i).map trD)]) := by
        rw [extD_ref hat (by rw [List.length_map, List.length_map]; omega), set_last, List.map_append]
      have bt : bindT (.tp [(.nm 2), (.nm 3)]) (.tpi [.int (i : Nat), wkD w]) [some (wsD ws), some (.ref S.length), none, none, none, none] = some E := rfl
      have t : turn [2, 3] (.tp [(.nm 2), (.nm 3)]) ball_runs_1 (.tpi [.int (i : Nat), wkD w]) [some (wsD ws), some (.ref S.length), none, none, none, none] (S ++ [DO.lst (acc.map trD)]) = .next [some (wsD ws), some (.ref S.length), none, none, none, none] (S ++ [DO.lst ((acc ++ rowT ws i).map trD)]) := by
        simp only [turn, bt]
        have v1 : eVar 1 E (S ++ [DO.lst (acc.map trD)]) = .ok (.ref S.length) (S ++ [DO.lst (acc.map trD)]) := rfl
        simp only [ball_runs_1, ap_Expr, ap_M, v1, Res.bind_ok, isT_ref hat, if_true, ap_Args, ap_Args0, ap_Ano, lc, anoD_lst, ex, Res.stm_ok, aft_next]
        rfl
      rw [List.map_cons, hw, forD_cons (src := .tmp ys) trivial, t]
      simp only
      rw [ih (acc ++ rowT ws i) (fun j hj => hi j (List.mem_cons_of_mem _ hj)) (by rw [List.length_append]; omega), List.flatMap_cons, List.append_assoc]
  have q := lp (List.range ws.length) (enumL (ws.map wkD)) [] (fun i hi => List.mem_range.mp hi) (by rw [List.length_range, List.length_nil]; have := h.1; omega)
  rw [← enum_map wkD ws []] at q
  have q' : forD [2, 3] (.tp [(.nm 2), (.nm 3)]) (.tmp (enumL (ws.map wkD))) ball_runs_1 (enumL (ws.map wkD)) [some (wsD ws), some (.ref S.length), none, none, none, none] (S ++ [.lst []]) = .next [some (wsD ws), some (.ref S.length), none, none, none, none] (S ++ [.lst ((allT ws).map trD)]) := q
  simp only [Fall_runs, runD, ball_runs, go0, goS]
  rw [forEA_tup (xs := ws.map wkD) rfl, q']
  simp only [goS]
  exact finR_app (Nat.le_refl _) last_at (gnds_map (fun x => rfl) _)
abbrev Mt := Nat × Nat × Nat × Nat × Int
def mtD (m : Mt) : D := .tup [.int (m.1 : Nat), .int (m.2.1 : Nat), .int (m.2.2.1 : Nat), .int (m.2.2.2.1 : Nat), .int m.2.2.2.2]
def omD : Option Mt → D
  | some m => mtD m
  | none => .non
def pairT (sh : Rn → Rn → Option Int) (x y : Tr) : Option Mt := (sh x.2.2 y.2.2).map fun n => (x.1, x.2.1, y.1, y.2.1, n)
def t0 : Tr := (0, 0, r0)
def meetT (sh : Rn → Rn → Option Int) (L : List Tr) : Option Mt := (List.range L.length).findSome? fun k => (List.range (L.length - (k + 1))).findSome? fun i => pairT sh (L[k]?.getD t0) (L[k + 1 + i]?.getD t0)
theorem drop_map (L : List Tr) (k : Nat) : L.drop (k + 1) = (List.range (L.length - (k + 1))).map fun i => L[k + 1 + i]?.getD t0 := by
  apply List.ext_getElem
  · simp
  · intro i h1 h2
    rw [List.length_drop] at h1
    simp [show k + 1 + i < L.length by omega]
theorem meetT_congr {sh sh' : Rn → Rn → Option Int} {L : List Tr} (h : ∀ x ∈ L, ∀ y ∈ L, sh x.2.2 y.2.2 = sh' x.2.2 y.2.2) : meetT sh L = meetT sh' L := by
  have fc : ∀ {α β : Type} (f g : α → Option β) (xs : List α), (∀ x ∈ xs, f x = g x) → xs.findSome? f = xs.findSome? g := by
    intro α β f g xs
    induction xs with
    | nil => intro _; rfl
    | cons x xs ih =>
      intro h
      rw [List.findSome?_cons, List.findSome?_cons, h x List.mem_cons_self, ih fun y hy => h y (List.mem_cons_of_mem _ hy)]
  unfold meetT
  refine fc _ _ _ fun k hk => fc _ _ _ fun i hi => ?_
  have hk := List.mem_range.mp hk
  have hi := List.mem_range.mp hi
  have e1 : L[k]?.getD t0 = L[k] := by simp [hk]
  have e2 : L[k + 1 + i]?.getD t0 = L[k + 1 + i] := by simp [show k + 1 + i < L.length by omega]
  unfold pairT
  rw [e1, e2, h _ (List.getElem_mem hk) _ (List.getElem_mem _)]
theorem omD_gnd (o : Option Mt) : (omD o).gnd = true := by cases o <;> rfl
theorem meeting_is (ws : List Wk) (h : WsOk ws) (S : Sto) : Fmeeting [wsD ws] S = .ok (omD (meetT shR (allT ws))) S := by
  have ar := allruns_is ws h S
  have al := allT_ok h
  have ln := allT_len h
  generalize allT ws = L at *
  have bt1 : ∀ (k : Nat) (x : Tr), bindT (.tp [(.nm 2), (.tp [(.nm 3), (.nm 4), (.nm 5)])]) (.tpi [.int (k : Nat), trD x]) [some (wsD ws), some (lsD trD L), none, none, none, none, none, none, none, none] = some [some (wsD ws), some (lsD trD L), some (.int (k : Nat)), some (.int (x.1 : Nat)), some (.int (x.2.1 : Nat)), some (rnD x.2.2), none, none, none, none] := fun k x => rfl
  have inner : ∀ (k : Nat) (x y : Tr), RnOk x.2.2 → RnOk y.2.2 → turn [6, 7, 8, 9] (.tp [(.nm 6), (.nm 7), (.nm 8)]) bmeeting_1 (trD y) [some (wsD ws), some (lsD trD L), some (.int (k : Nat)), some (.int (x.1 : Nat)), some (.int (x.2.1 : Nat)), some (rnD x.2.2), none, none, none, none] S = match (pairT shR x y).map mtD with
      | some d => .ret d S
      | none => .next [some (wsD ws), some (lsD trD L), some (.int (k : Nat)), some (.int (x.1 : Nat)), some (.int (x.2.1 : Nat)), some (rnD x.2.2), none, none, none, none] S := fun k x y hx hy => by
    have bt : bindT (.tp [(.nm 6), (.nm 7), (.nm 8)]) (trD y) [some (wsD ws), some (lsD trD L), some (.int (k : Nat)), some (.int (x.1 : Nat)), some (.int (x.2.1 : Nat)), some (rnD x.2.2), none, none, none, none] = some [some (wsD ws), some (lsD trD L), some (.int (k : Nat)), some (.int (x.1 : Nat)), some (.int (x.2.1 : Nat)), some (rnD x.2.2), some (.int (y.1 : Nat)), some (.int (y.2.1 : Nat)), some (rnD y.2.2), none] := rfl
    have sr := shared_is x.2.2 y.2.2 hx hy S
    unfold pairT
    cases e : shR x.2.2 y.2.2 with
    | none =>
      rw [e] at sr
      simp only [oD] at sr
      simp only [turn, bt]
      simp only [goS, bmeeting_1, sr, isND_ap, isN_non, Bool.not_true, if_true, Option.map_none]
    | some n =>
      rw [e] at sr
      simp only [oD] at sr
      simp only [turn, bt]
      simp only [goS, bmeeting_1, sr, isND_ap, isN_int, Bool.not_false, if_true, Option.map_some]
      rfl
  have outer : ∀ k : Nat, k < L.length → turn [2, 3, 4, 5, 6, 7, 8, 9] (.tp [(.nm 2), (.tp [(.nm 3), (.nm 4), (.nm 5)])]) bmeeting_2 (.tpi [.int (k : Nat), trD (L[k]?.getD t0)]) [some (wsD ws), some (lsD trD L), none, none, none, none, none, none, none, none] S = match ((List.range (L.length - (k + 1))).findSome? fun i => pairT shR (L[k]?.getD t0) (L[k + 1 + i]?.getD t0)).map mtD with
      | some d => .ret d S
      | none => .next [some (wsD ws), some (lsD trD L), none, none, none, none, none, none, none, none] S := fun k hk => by
    have e1 : L[k]?.getD t0 = L[k] := by simp [hk]
    have hx := al _ (List.getElem_mem hk)
    rw [← e1] at hx
    generalize L[k]?.getD t0 = x at *
    let E : En := [some (wsD ws), some (lsD trD L), some (.int (k : Nat)), some (.int (x.1 : Nat)), some (.int (x.2.1 : Nat)), some (rnD x.2.2), none, none, none, none]
    have sl : ∀ T, slD (lsD trD L) (some ((k : Nat) + 1)) none T = .ok (.lst ((L.drop (k + 1)).map trD)) T := fun T => by
      show slD (.lst (L.map trD)) _ _ T = _
      rw [slD_lst, show ((k : Nat) : Int) + 1 = ((k + 1 : Nat) : Int) by omega, cut_from, List.map_drop]
    have lp := for_find (dead := [6, 7, 8, 9]) (tg := .tp [(.nm 6), (.nm 7), (.nm 8)]) (body := bmeeting_1) (e := E) (S := S) (ys := (L.drop (k + 1)).map trD) trD (fun y => (pairT shR x y).map mtD) (L.drop (k + 1)) fun y hy => inner k x y hx (al y (List.mem_of_mem_drop hy))
    have fs : sFor [6, 7, 8, 9] (.tp [(.nm 6), (.nm 7), (.nm 8)]) (iS (eSl (eVar 1) (pE (e2 addD (eVar 2) (eC (.int 1)))) pN)) bmeeting_1 E S = forD [6, 7, 8, 9] (.tp [(.nm 6), (.nm 7), (.nm 8)]) (.tmp ((L.drop (k + 1)).map trD)) bmeeting_1 ((L.drop (k + 1)).map trD) E S := forS_lst (by simp only [E, goS, addD_int, sl])
    have em : (L.drop (k + 1)).findSome? (fun y => (pairT shR x y).map mtD) = ((List.range (L.length - (k + 1))).findSome? fun i => pairT shR x (L[k + 1 + i]?.getD t0)).map mtD := by
      rw [drop_map, List.findSome?_map]
      generalize List.range (L.length - (k + 1)) = is
      induction is with
      | nil => rfl
      | cons i is ih =>
        rw [List.findSome?_cons, List.findSome?_cons]
        simp only [Function.comp]
        cases pairT shR x (L[k + 1 + i]?.getD t0) with
        | some m => rfl
        | none => exact ih
    rw [em] at lp
    simp only [turn, bt1]
    show aft _ (fgtR [6, 7, 8, 9] (sFor [6, 7, 8, 9] (.tp [(.nm 6), (.nm 7), (.nm 8)]) (iS (eSl (eVar 1) (pE (e2 addD (eVar 2) (eC (.int 1)))) pN)) bmeeting_1 E S)) = _
    rw [fs, lp]
    cases ((List.range (L.length - (k + 1))).findSome? fun i => pairT shR x (L[k + 1 + i]?.getD t0)).map mtD with
    | some d => simp only [goS]
    | none => simp only [E, goS]
  have lp := for_find (dead := [2, 3, 4, 5, 6, 7, 8, 9]) (tg := .tp [(.nm 2), (.tp [(.nm 3), (.nm 4), (.nm 5)])]) (body := bmeeting_2) (e := [some (wsD ws), some (lsD trD L), none, none, none, none, none, none, none, none]) (S := S) (ys := enumL (L.map trD)) (fun k : Nat => .tpi [.int (k : Nat), trD (L[k]?.getD t0)]) (fun k => ((List.range (L.length - (k + 1))).findSome? fun i => pairT shR (L[k]?.getD t0) (L[k + 1 + i]?.getD t0)).map mtD) (List.range L.length) fun k hk => outer k (List.mem_range.mp hk)
  rw [← enum_map trD L t0] at lp
  have em : (List.range L.length).findSome? (fun k => ((List.range (L.length - (k + 1))).findSome? fun i => pairT shR (L[k]?.getD t0) (L[k + 1 + i]?.getD t0)).map mtD) = (meetT shR L).map mtD := by
    unfold meetT
    generalize List.range L.length = ks
    induction ks with
    | nil => rfl
    | cons k ks ih =>
      rw [List.findSome?_cons, List.findSome?_cons]
      cases (List.range (L.length - (k + 1))).findSome? fun i => pairT shR (L[k]?.getD t0) (L[k + 1 + i]?.getD t0) with
      | some m => rfl
      | none => exact ih
  rw [em] at lp
  have fs : sFor [2, 3, 4, 5, 6, 7, 8, 9] (.tp [(.nm 2), (.tp [(.nm 3), (.nm 4), (.nm 5)])]) (iEA (eVar 1)) bmeeting_2 [some (wsD ws), some (lsD trD L), none, none, none, none, none, none, none, none] S = forD [2, 3, 4, 5, 6, 7, 8, 9] (.tp [(.nm 2), (.tp [(.nm 3), (.nm 4), (.nm 5)])]) (.tmp (enumL (L.map trD))) bmeeting_2 (enumL (L.map trD)) [some (wsD ws), some (lsD trD L), none, none, none, none, none, none, none, none] S := by
    rw [ap_For, ap_iEA]
    rfl
  simp only [Fmeeting, runD, bmeeting, go0, goS, ar]
  rw [fs, lp]
  cases meetT shR L with
  | some m =>
    simp only [Option.map_some, goS]
    exact fin_same rfl
  | none =>
    simp only [Option.map_none, goS]
    exact fin_same rfl
theorem all_true {α : Type} (xs : List α) : (xs.map fun _ => true).all id = true := by
  induction xs with
  | nil => rfl
  | cons x xs ih => simp only [List.map_cons, List.all_cons, ih]; rfl
theorem arewalks_is (ws : List Wk) (h : WsOk ws) (S : Sto) : Fare_walks [wsD ws] S = .ok (.bl true) S := by
  have hl := h.1
  have l1 : nLc [1] (.nm 1) (iS (eVar 0)) tYesD (e1 (isD "tuple") (eVar 1)) [some (wsD ws), none, none] S = .ok (.lst ((ws.map fun _ => true).map D.bl)) S := by
    refine nLcS_tup (xs := ws.map wkD) rfl (by rw [List.length_map]; omega) ?_
    rw [List.map_map]
    exact lc_all (ys := ws.map wkD) wkD (D.bl ∘ fun _ => true) ws fun w _ => ⟨[some (wsD ws), some (wkD w), none], rfl, rfl⟩
  have l2 : ∀ w ∈ ws, nLc [2] (.nm 2) (iS (eVar 1)) tYesD (eFn Fis_run [(eVar 2)]) [some (wsD ws), some (wkD w), none] S = .ok (.lst ((w.map fun _ => true).map D.bl)) S := fun w hw => by
    obtain ⟨wl, wo⟩ := h.2 w hw
    refine nLcS_tup (xs := w.map rnD) rfl (by rw [List.length_map]; omega) ?_
    rw [List.map_map]
    refine lc_all (ys := w.map rnD) rnD (D.bl ∘ fun _ => true) w fun r hr => ⟨[some (wsD ws), some (wkD w), some (rnD r)], rfl, ?_⟩
    obtain ⟨g1, g2⟩ := run_good (wo r hr)
    have := run_is (rnD r) g1 S
    rw [g2] at this
    simp only [goS, this]
    rfl
  have ba : ∀ {α : Type} (xs : List α), boolsD (fun bs => bs.all id) [.lst ((xs.map fun _ => true).map D.bl)] S = .ok (.bl true) S := fun xs => by rw [boolsD_map, all_true]
  have l3 : nLc [1] (.nm 1) (iS (eVar 0)) tYesD (eCall (boolsD fun bs => bs.all id) [(eAno (nLc [2] (.nm 2) (iS (eVar 1)) tYesD (eFn Fis_run [(eVar 2)])))]) [some (wsD ws), none, none] S = .ok (.lst ((ws.map fun _ => true).map D.bl)) S := by
    refine nLcS_tup (xs := ws.map wkD) rfl (by rw [List.length_map]; omega) ?_
    rw [List.map_map]
    refine lc_all (ys := ws.map wkD) wkD (D.bl ∘ fun _ => true) ws fun w hw => ⟨[some (wsD ws), some (wkD w), none], rfl, ?_⟩
    simp only [goS, l2 w hw, ba]
    rfl
  have it : isD "tuple" (wsD ws) S = .ok (.bl true) S := rfl
  simp only [Fare_walks, runD, bare_walks, go0, goS, it, Bool.not_true, l1, ba, l3]
  exact fin_same rfl
theorem isbook_is (ws : List Wk) (h : WsOk ws) (S : Sto) : Fis_book [wsD ws] S = .ok (.bl (meetT shR (allT ws)).isNone) S := by
  have h1 := arewalks_is ws h S
  have h2 := meeting_is ws h S
  have e : (omD (meetT shR (allT ws))).isN = (meetT shR (allT ws)).isNone := by cases meetT shR (allT ws) <;> rfl
  simp only [Fis_book, runD, bis_book, go0, goS, h1, h2, isND_ap, e, Bool.false_eq_true, if_false]
  exact fin_same rfl
theorem ne_om (o : Option Mt) (S : Sto) : eqD true (omD o) (omD o) S = .ok (.bl false) S := by
  cases o with
  | none =>
    have h1 : Pu.shp S .non = true := rfl
    have h2 : Pu.eqB S .non .non = true := by
      show PyData.eqv PyData.none PyData.none = true
      simp [PyData.eqv]
    show eqD true .non .non S = _
    unfold eqD
    rw [if_pos ⟨h1, h1⟩, h2]
    rfl
  | some m =>
    have := Rp.int.tp.ne (by decide) [(m.1 : Int), (m.2.1 : Int), (m.2.2.1 : Int), (m.2.2.2.1 : Int), m.2.2.2.2] [(m.1 : Int), (m.2.1 : Int), (m.2.2.1 : Int), (m.2.2.2.1 : Int), m.2.2.2.2] S
    rw [decide_eq_true rfl] at this
    exact this
def DJ (r q : Rn) : Prop := r.1 = q.1 → ∀ c, ¬ (hasR r c ∧ hasR q c)
theorem DJ.symm {r q : Rn} (h : DJ r q) : DJ q r := fun e c z => h e.symm c ⟨z.2, z.1⟩
theorem sh_none {r q : Rn} (hr : RnOk r) (hq : RnOk q) : shR r q = none ↔ DJ r q := by
  unfold shR
  by_cases hs : r.1 = q.1
  · rw [if_neg (by simpa using hs)]
    constructor
    · intro h _ c ⟨z1, z2⟩
      rcases no_shared hr hq z1 z2 with z | z
      · rw [if_pos z] at h
        cases h
      · by_cases z0 : hasR r (lowR r q) ∧ hasR q (lowR r q)
        · rw [if_pos z0] at h
          cases h
        · rw [if_neg z0, if_pos z] at h
          cases h
    · intro h
      rw [if_neg (h hs _), if_neg (h hs _)]
  · rw [if_pos (by simpa using hs)]
    exact ⟨fun _ e => absurd e hs, fun _ => rfl⟩
theorem p10_36 {S : Sto} : powD (.int 10) (.int 36) S = .ok (.int (10 ^ 36)) S := powD_ok (by decide)
theorem lpB1 : ∀ p ∈ ([3, 9, 10 ^ 36] : List Int), 0 < p ∧ p.natAbs.log2 < 9000 := by
  intro p hp
  simp only [List.mem_cons, List.not_mem_nil, or_false] at hp
  rcases hp with rfl | rfl | rfl <;> decide +kernel
theorem lpB2 : ∀ p ∈ ([3, 5, 10 ^ 36] : List Int), 0 < p ∧ p.natAbs.log2 < 9000 := by
  intro p hp
  simp only [List.mem_cons, List.not_mem_nil, or_false] at hp
  rcases hp with rfl | rfl | rfl <;> decide +kernel
theorem lpB3 : ∀ p ∈ ([3, 9, 10 ^ 36] : List Int), p ≤ 10 ^ 36 := by
  intro p hp
  simp only [List.mem_cons, List.not_mem_nil, or_false] at hp
  rcases hp with rfl | rfl | rfl <;> decide +kernel
theorem lpB4 : ∀ p ∈ ([3, 5, 10 ^ 36] : List Int), p ≤ 10 ^ 36 := by
  intro p hp
  simp only [List.mem_cons, List.not_mem_nil, or_false] at hp
  rcases hp with rfl | rfl | rfl <;> decide +kernel
/-- runs of streets below one, no two of them meet -/
def Gr (st : Int) (R : List Rn) : Prop := (∀ r ∈ R, RnOk r ∧ r.1 < st) ∧ R.Pairwise DJ
theorem Gr.mono {s t : Int} (h : s ≤ t) {R : List Rn} (g : Gr s R) : Gr t R := ⟨fun r hr => ⟨(g.1 r hr).1, by have := (g.1 r hr).2; omega⟩, g.2⟩
theorem Gr.add {s t : Int} {R K : List Rn} (g : Gr s R) (hs : s < t) (hk : ∀ r ∈ K, RnOk r ∧ r.1 = s) (hp : K.Pairwise DJ) : Gr t (R ++ K) := by
  refine ⟨fun r hr => ?_, List.pairwise_append.mpr ⟨g.2, hp, fun r hr q hq e => ?_⟩⟩
  · rcases List.mem_append.mp hr with hr | hr
    · have := g.1 r hr
      exact ⟨this.1, by omega⟩
    · have := hk r hr
      exact ⟨this.1, by omega⟩
  · have h1 := (g.1 r hr).2
    have h2 := (hk q hq).2
    omega
theorem e37 : (10 ^ 36 : Int) * 3 + 10 < 596216567187872108348956733961803993281 := by decide
theorem run_0 {s l m : Int} (h0 : 0 ≤ s) (h1 : s < 31) (l0 : 1 ≤ l) (l1 : l ≤ 10 ^ 36) (m0 : 0 ≤ m) (m1 : m < 10 ^ 36) : RnOk (s, l, l + m, 1) := by
  have := e37
  exact ⟨h0, h1, l0, by show l < _; omega, by show 1 ≤ l + m; omega, by show l + m < _; omega, show ((1 : Int) ∈ stp) by decide, m.toNat, by show l + m = l + _ * 1; omega⟩
theorem run_1 {s l m : Int} (h0 : 0 ≤ s) (h1 : s < 31) (l0 : 1 ≤ l) (l1 : l ≤ 10 ^ 36) (m0 : 0 ≤ m) (m1 : m < 10 ^ 36) : RnOk (s, l + m, l, -1) := by
  have := e37
  exact ⟨h0, h1, by show 1 ≤ l + m; omega, by show l + m < _; omega, l0, by show l < _; omega, show ((-1 : Int) ∈ stp) by decide, m.toNat, by show l = l + m + _ * (-1); omega⟩
theorem run_2 {s l m : Int} (h0 : 0 ≤ s) (h1 : s < 31) (l0 : 1 ≤ l) (l1 : l ≤ 10 ^ 36) (m0 : 0 ≤ m) (m1 : m < 10 ^ 36) : RnOk (s, l, l + 2 * m, 2) := by
  have := e37
  exact ⟨h0, h1, l0, by show l < _; omega, by show 1 ≤ l + 2 * m; omega, by show l + 2 * m < _; omega, show ((2 : Int) ∈ stp) by decide, m.toNat, by show l + 2 * m = l + _ * 2; omega⟩
theorem run_3 {s l m : Int} (h0 : 0 ≤ s) (h1 : s < 31) (l0 : 1 ≤ l) (l1 : l ≤ 10 ^ 36) (m0 : 0 ≤ m) (m1 : m < 10 ^ 36) : RnOk (s, l + 1 + 2 * m, l + 1, -2) := by
  have := e37
  exact ⟨h0, h1, by show 1 ≤ l + 1 + 2 * m; omega, by show l + 1 + 2 * m < _; omega, by show 1 ≤ l + 1; omega, by show l + 1 < _; omega, show ((-2 : Int) ∈ stp) by decide, m.toNat, by show l + 1 = l + 1 + 2 * m + _ * (-2); omega⟩
theorem dj_23 (s l m : Int) : DJ (s, l, l + 2 * m, 2) (s, l + 1 + 2 * m, l + 1, -2) := by
  rintro _ c ⟨⟨_, _, h1⟩, ⟨_, _, h2⟩⟩
  have h1 : (c - l) % 2 = 0 := h1
  have h2 : (c - (l + 1 + 2 * m)) % 2 = 0 := h2
  omega
theorem ob_turn {S : Sto} {b : Nat} (hb : b < S.length) (x1 x3 : Option D) (st : Int) (h0 : 0 ≤ st) (h1 : st < 31) (K : List Rn) (hK : K.length < 100) (c m : Int) (hc : 0 ≤ c) (x : D) :
    ∃ (K2 : List Rn) (st' c' m' : Int), 0 ≤ c' ∧ st < st' ∧ st' ≤ st + 2 ∧ K2.length ≤ 2 ∧ (∀ r ∈ K2, RnOk r ∧ r.1 = st) ∧ K2.Pairwise DJ ∧
      turn [5, 6, 7, 8] (.nm 5) b_law_book_1 x [some (.ref b), x1, some (.int st), x3, some (.ref S.length), none, none, none, none] (Bg (S ++ [.lst (K.map rnD)]) b c m) = .next [some (.ref b), x1, some (.int st'), x3, some (.ref S.length), none, none, none, none] (Bg (S ++ [.lst ((K ++ K2).map rnD)]) b c' m') := by
  have hb' : ∀ L : List D, b < (S ++ [DO.lst L]).length := fun L => by rw [List.length_append]; omega
  obtain ⟨j1, d1, p1, c1, m1, c2, m2, hp1, hd1, hdp1, hc2, a1, a2, a3⟩ := take_of2 (S := S ++ [.lst (K.map rnD)]) (k := b) (c := c) (m := m) [3, 9, 10 ^ 36] (n := 3) rfl (by decide) (by decide) lpB1 (hb' _) hc
  have a1' : F_law_take [.ref b, .int 3] (Bg (S ++ [.lst (K.map rnD)]) b c m) = .ok (.int j1) (Bg (S ++ [.lst (K.map rnD)]) b c1 m1) := a1
  have a2' : atI [D.int 3, D.int 9, D.int (10 ^ 36)] (j1 : Int) = some (.int p1) := a2
  have l1 := lpB3 p1 hp1
  obtain ⟨j2, d2, p2, c3, m3, c4, m4, hp2, hd2, hdp2, hc4, b1, b2, b3⟩ := take_of2 (S := S ++ [.lst (K.map rnD)]) (k := b) (c := c2) (m := m2) [3, 5, 10 ^ 36] (n := 3) rfl (by decide) (by decide) lpB2 (hb' _) hc2
  have b1' : F_law_take [.ref b, .int 3] (Bg (S ++ [.lst (K.map rnD)]) b c2 m2) = .ok (.int j2) (Bg (S ++ [.lst (K.map rnD)]) b c3 m3) := b1
  have b2' : atI [D.int 3, D.int 5, D.int (10 ^ 36)] (j2 : Int) = some (.int p2) := b2
  have l2 := lpB4 p2 hp2
  obtain ⟨w, c5, m5, hw, hc5, q5⟩ := takeN (S := S ++ [.lst (K.map rnD)]) (k := b) (c := c4) (m := m4) (many := 4) (hb' _) hc4 (by decide) (by decide)
  have q5' : F_law_take [.ref b, .int 4] (Bg (S ++ [.lst (K.map rnD)]) b c4 m4) = .ok (.int (w : Nat)) (Bg (S ++ [.lst (K.map rnD)]) b c5 m5) := q5
  have at5 : ∀ (L : List Rn) (c m : Int), (Bg (S ++ [DO.lst (L.map rnD)]) b c m)[S.length]? = some (.lst (L.map rnD)) := fun L c m => Bg_last hb
  have ist : ∀ (L : List Rn) (c m : Int), isT "list" (.ref S.length) (Bg (S ++ [DO.lst (L.map rnD)]) b c m) := fun L c m => isT_ref (at5 L c m)
  have ap : ∀ (L : List Rn) (r : Rn) (c m : Int), L.length < 1000 → appD (.ref S.length) [rnD r] (Bg (S ++ [DO.lst (L.map rnD)]) b c m) = .ok .non (Bg (S ++ [DO.lst ((L ++ [r]).map rnD)]) b c m) := fun L r c m hl => by
    rw [appD_ref (at5 L c m) (Pu.sz (by rw [List.length_map]; omega)), Bg_setl hb, List.map_append]
    rfl
  have m2f : FitMul 2 d2 := .left (by decide) (by decide)
  by_cases w0 : ((w : Nat) : Int) = 0
  · obtain ⟨s, c6, m6, hs, hc6, q6⟩ := takeN (S := S ++ [.lst ((K ++ [(st, 1 + d1, 1 + d1 + d2, 1)]).map rnD)]) (k := b) (c := c5) (m := m5) (many := 2) (hb' _) hc5 (by decide) (by decide)
    have q6' : F_law_take [.ref b, .int 2] (Bg (S ++ [.lst ((K ++ [(st, 1 + d1, 1 + d1 + d2, 1)]).map rnD)]) b c5 m5) = .ok (.int (s : Nat)) (Bg (S ++ [.lst ((K ++ [(st, 1 + d1, 1 + d1 + d2, 1)]).map rnD)]) b c6 m6) := q6
    refine ⟨[(st, 1 + d1, 1 + d1 + d2, 1)], st + 1 + (s : Nat), c6, m6, hc6, by omega, by omega, by simp, fun r hr => ?_, by simp, ?_⟩
    · rw [List.mem_singleton] at hr
      subst hr
      exact ⟨run_0 h0 h1 (by omega) (by omega) hd2 (by omega), rfl⟩
    · have a := ap K (st, 1 + d1, 1 + d1 + d2, 1) c5 m5 (by omega)
      simp only [rnD] at a
      have d0 : decide (((w : Nat) : Int) = 0) = true := decide_eq_true w0
      simp only [turn, goS, b_law_book_1, ap_nLst, p10_36, a1', ixD_lst, a2', a3, addD_int, b1', b2', b3, q5', eqD_int, d0, if_true, ist, a, q6']
  · have d0 : decide (((w : Nat) : Int) = 0) = false := decide_eq_false w0
    by_cases w1 : ((w : Nat) : Int) = 1
    · obtain ⟨s, c6, m6, hs, hc6, q6⟩ := takeN (S := S ++ [.lst ((K ++ [(st, 1 + d1 + d2, 1 + d1, -1)]).map rnD)]) (k := b) (c := c5) (m := m5) (many := 2) (hb' _) hc5 (by decide) (by decide)
      have q6' : F_law_take [.ref b, .int 2] (Bg (S ++ [.lst ((K ++ [(st, 1 + d1 + d2, 1 + d1, -1)]).map rnD)]) b c5 m5) = .ok (.int (s : Nat)) (Bg (S ++ [.lst ((K ++ [(st, 1 + d1 + d2, 1 + d1, -1)]).map rnD)]) b c6 m6) := q6
      refine ⟨[(st, 1 + d1 + d2, 1 + d1, -1)], st + 1 + (s : Nat), c6, m6, hc6, by omega, by omega, by simp, fun r hr => ?_, by simp, ?_⟩
      · rw [List.mem_singleton] at hr
        subst hr
        exact ⟨run_1 h0 h1 (by omega) (by omega) hd2 (by omega), rfl⟩
      · have a := ap K (st, 1 + d1 + d2, 1 + d1, -1) c5 m5 (by omega)
        simp only [rnD] at a
        have d1' : decide (((w : Nat) : Int) = 1) = true := decide_eq_true w1
        simp only [turn, goS, b_law_book_1, ap_nLst, p10_36, a1', ixD_lst, a2', a3, addD_int, b1', b2', b3, q5', eqD_int, d0, d1', if_true, Bool.false_eq_true, if_false, ist, negD_int, a, q6']
    · have d1' : decide (((w : Nat) : Int) = 1) = false := decide_eq_false w1
      let r1 : Rn := (st, 1 + d1, 1 + d1 + 2 * d2, 2)
      let r2 : Rn := (st, 1 + d1 + 1 + 2 * d2, 1 + d1 + 1, -2)
      obtain ⟨s, c6, m6, hs, hc6, q6⟩ := takeN (S := S ++ [.lst ((K ++ [r1] ++ [r2]).map rnD)]) (k := b) (c := c5) (m := m5) (many := 2) (hb' _) hc5 (by decide) (by decide)
      have q6' : F_law_take [.ref b, .int 2] (Bg (S ++ [.lst ((K ++ [r1] ++ [r2]).map rnD)]) b c5 m5) = .ok (.int (s : Nat)) (Bg (S ++ [.lst ((K ++ [r1] ++ [r2]).map rnD)]) b c6 m6) := q6
      refine ⟨[r1, r2], st + 1 + (s : Nat), c6, m6, hc6, by omega, by omega, by simp, fun r hr => ?_, ?_, ?_⟩
      · simp only [List.mem_cons, List.not_mem_nil, or_false] at hr
        rcases hr with rfl | rfl
        · exact ⟨run_2 h0 h1 (by omega) (by omega) hd2 (by omega), rfl⟩
        · exact ⟨run_3 h0 h1 (by omega) (by omega) hd2 (by omega), rfl⟩
      · simp only [List.pairwise_cons, List.mem_singleton, List.not_mem_nil, false_implies, implies_true, List.Pairwise.nil, and_true, forall_eq]
        exact dj_23 _ _ _
      · have a := ap K r1 c5 m5 (by omega)
        have a' := ap (K ++ [r1]) r2 c5 m5 (by rw [List.length_append, List.length_singleton]; omega)
        have ist1 := ist K c5 m5
        have ist2 := ist (K ++ [r1]) c5 m5
        have eK : K ++ [r1, r2] = K ++ [r1] ++ [r2] := by simp
        rw [eK]
        simp only [rnD, r1, r2] at a a' q6' ist2 ⊢
        simp only [turn, goS, b_law_book_1, ap_nLst, p10_36, a1', ixD_lst, a2', a3, addD_int, b1', b2', b3, q5', eqD_int, d0, d1', Bool.false_eq_true, if_false, ist1, ist2, if_true, negD_int, mulD_int, m2f, a, a', q6']
theorem ob_loop {S : Sto} {b : Nat} (hb : b < S.length) (x1 x3 : Option D) (FL : List Rn) (ys : List D) : ∀ (xs : List D) (st : Int) (K : List Rn) (c m : Int), 0 ≤ c → 0 ≤ st → st + 2 * xs.length ≤ 30 → K.length + 2 * xs.length < 90 → Gr st (FL ++ K) →
    ∃ (K' : List Rn) (st' c' m' : Int), 0 ≤ c' ∧ st ≤ st' ∧ st' ≤ st + 2 * xs.length ∧ K'.length ≤ K.length + 2 * xs.length ∧ Gr st' (FL ++ K') ∧
      forD [5, 6, 7, 8] (.nm 5) (.tmp ys) b_law_book_1 xs [some (.ref b), x1, some (.int st), x3, some (.ref S.length), none, none, none, none] (Bg (S ++ [.lst (K.map rnD)]) b c m) = .next [some (.ref b), x1, some (.int st'), x3, some (.ref S.length), none, none, none, none] (Bg (S ++ [.lst (K'.map rnD)]) b c' m')
  | [], st, K, c, m, hc, h0, h1, hl, g => ⟨K, st, c, m, hc, by omega, by omega, by omega, g, forD_nil trivial⟩
  | x :: xs, st, K, c, m, hc, h0, h1, hl, g => by
    rw [List.length_cons] at h1 hl
    obtain ⟨K2, st1, c1, m1, hc1, s1, s2, l2, k2, p2, q⟩ := ob_turn hb x1 x3 st h0 (by omega) K (by omega) c m hc x
    obtain ⟨K3, st3, c3, m3, hc3, s3, s4, l3, g3, q3⟩ := ob_loop hb x1 x3 FL ys xs st1 (K ++ K2) c1 m1 hc1 (by omega) (by omega) (by rw [List.length_append]; omega) (by rw [← List.append_assoc]; exact g.add s1 k2 p2)
    refine ⟨K3, st3, c3, m3, hc3, by omega, by rw [List.length_cons]; omega, by rw [List.length_append] at l3; rw [List.length_cons]; omega, g3, ?_⟩
    rw [forD_cons (src := .tmp ys) trivial, q]
    exact q3
def obS (S : Sto) (WS : List Wk) (J : Sto) : Sto := S ++ ([.lst (WS.map wkD)] ++ J)
theorem ob_outer {S : Sto} {b : Nat} (hb : b < S.length) (ys : List D) : ∀ (xs : List D) (st : Int) (WS : List Wk) (J : Sto) (c m : Int), 0 ≤ c → 0 ≤ st → st + 4 * xs.length ≤ 30 → WS.length + xs.length < 50 → (∀ w ∈ WS, w.length ≤ 4) → Gr st WS.flatten →
    ∃ (WS' : List Wk) (J' : Sto) (st' c' m' : Int), 0 ≤ c' ∧ st ≤ st' ∧ st' ≤ st + 4 * xs.length ∧ WS'.length = WS.length + xs.length ∧ (∀ w ∈ WS', w.length ≤ 4) ∧ Gr st' WS'.flatten ∧
      forD [3, 4, 5, 6, 7, 8] (.nm 3) (.tmp ys) b_law_book_2 xs [some (.ref b), some (.ref S.length), some (.int st), none, none, none, none, none, none] (Bg (obS S WS J) b c m) = .next [some (.ref b), some (.ref S.length), some (.int st'), none, none, none, none, none, none] (Bg (obS S WS' J') b c' m')
  | [], st, WS, J, c, m, hc, h0, h1, hl, hw, g => ⟨WS, J, st, c, m, hc, by omega, by omega, by simp, hw, g, forD_nil trivial⟩
  | x :: xs, st, WS, J, c, m, hc, h0, h1, hl, hw, g => by
    rw [List.length_cons] at h1 hl
    have hb1 : b < (obS S WS J).length := by simp [obS]; omega
    obtain ⟨n, c1, m1, hn, hc1, q1⟩ := takeN (S := obS S WS J ++ [.lst []]) (k := b) (c := c) (m := m) (many := 3) (by rw [List.length_append]; omega) hc (by decide) (by decide)
    have q1' : F_law_take [.ref b, .int 3] (Bg (obS S WS J ++ [.lst []]) b c m) = .ok (.int (n : Nat)) (Bg (obS S WS J ++ [.lst []]) b c1 m1) := q1
    obtain ⟨K, st1, c2, m2, hc2, s1, s2, lK, gK, q2⟩ := ob_loop hb1 (some (.ref S.length)) (some x) WS.flatten (rngD 0 n) (rngD 0 n) st [] c1 m1 hc1 h0 (by rw [rngD_len]; omega) (by rw [rngD_len]; simp; omega) (by rw [List.append_nil]; exact g)
    rw [rngD_len] at s2 lK
    have eF : (WS ++ [K]).flatten = WS.flatten ++ K := by simp
    obtain ⟨WS', J', st', c3, m3, hc3, s3, s4, lW, hw', g', q3⟩ := ob_outer hb ys xs st1 (WS ++ [K]) (J ++ [.lst (K.map rnD)]) c2 m2 hc2 (by omega) (by omega) (by rw [List.length_append, List.length_singleton]; omega) (fun w h => by
      rcases List.mem_append.mp h with h | h
      · exact hw w h
      · rw [List.mem_singleton.mp h]
        simp at lK
        omega) (by rw [eF]; exact gK)
    refine ⟨WS', J', st', c3, m3, hc3, by omega, by rw [List.length_cons]; omega, by rw [lW, List.length_append, List.length_singleton, List.length_cons]; omega, hw', g', ?_⟩
    have lS : (Bg (obS S WS J) b c m).length = (obS S WS J).length := Bg_len
    have eN : Bg (obS S WS J) b c m ++ [DO.lst []] = Bg (obS S WS J ++ [.lst []]) b c m := Bg_app hb1
    have atW : (Bg (obS S WS J ++ [.lst (K.map rnD)]) b c2 m2)[S.length]? = some (.lst (WS.map wkD)) := by
      unfold Bg obS
      rw [List.getElem?_set_ne (by omega), List.append_assoc, List.append_assoc]
      simp
    have atK : (Bg (obS S WS J ++ [.lst (K.map rnD)]) b c2 m2)[(obS S WS J).length]? = some (.lst (K.map rnD)) := Bg_last hb1
    have ap : appD (.ref S.length) [.tup (K.map rnD)] (Bg (obS S WS J ++ [.lst (K.map rnD)]) b c2 m2) = .ok .non (Bg (obS S (WS ++ [K]) (J ++ [.lst (K.map rnD)])) b c2 m2) := by
      rw [appD_ref atW (Pu.sz (by rw [List.length_map]; omega))]
      congr 1
      unfold Bg
      rw [List.set_comm _ _ (by omega)]
      congr 1
      unfold obS
      simp [wkD, tpD]
    have ff : sFor [5, 6, 7, 8] (.nm 5) (iR1 (eFn F_law_take [(eVar 0), (eC (.int 3))])) b_law_book_1 [some (.ref b), some (.ref S.length), some (.int st), some x, some (.ref (obS S WS J).length), none, none, none, none] (Bg (obS S WS J ++ [.lst []]) b c m) = .next [some (.ref b), some (.ref S.length), some (.int st1), some x, some (.ref (obS S WS J).length), none, none, none, none] (Bg (obS S WS J ++ [.lst (K.map rnD)]) b c2 m2) := by
      rw [ap_For, ap_iR1]
      have e1 : eFn F_law_take [(eVar 0), (eC (.int 3))] [some (.ref b), some (.ref S.length), some (.int st), some x, some (.ref (obS S WS J).length), none, none, none, none] (Bg (obS S WS J ++ [.lst []]) b c m) = .ok (.int (n : Nat)) (Bg (obS S WS J ++ [.lst []]) b c1 m1) := by simp only [goS, q1']
      rw [e1, Res.bind_ok, srcR1_ap, if_pos (rg (by omega)), Res.stm_ok]
      exact q2
    have t : turn [3, 4, 5, 6, 7, 8] (.nm 3) b_law_book_2 x [some (.ref b), some (.ref S.length), some (.int st), none, none, none, none, none, none] (Bg (obS S WS J) b c m) = .next [some (.ref b), some (.ref S.length), some (.int st1), none, none, none, none, none, none] (Bg (obS S (WS ++ [K]) (J ++ [.lst (K.map rnD)])) b c2 m2) := by
      simp only [turn, goS, b_law_book_2, lS, eN, ff, isT_ref atW, if_true, tupD_ref atK, ap]
    rw [forD_cons (src := .tmp ys) trivial, t]
    exact q3
theorem wsD_gnd (ws : List Wk) : (wsD ws).gnd = true := by
  show gnds (ws.map wkD) = true
  exact gnds_map (fun w => by
    show gnds (w.map rnD) = true
    exact gnds_map (fun r => rfl) w) ws
theorem obook {S : Sto} {b : Nat} (hb : b < S.length) {c m : Int} (hc : 0 ≤ c) : ∃ (ws : List Wk) (c' m' : Int), 0 ≤ c' ∧ WsOk ws ∧ 1 ≤ ws.length ∧ ws.length ≤ 3 ∧ (∀ w ∈ ws, w.length ≤ 4) ∧ Gr 18 ws.flatten ∧ F_law_book [.ref b] (Bg S b c m) = .ok (wsD ws) (Bg S b c' m') := by
  obtain ⟨s, c1, m1, hs, hc1, q1⟩ := takeN (S := S ++ [.lst []]) (k := b) (c := c) (m := m) (many := 5) (by rw [List.length_append]; omega) hc (by decide) (by decide)
  have q1' : F_law_take [.ref b, .int 5] (Bg (S ++ [.lst []]) b c m) = .ok (.int (s : Nat)) (Bg (S ++ [.lst []]) b c1 m1) := q1
  obtain ⟨n, c2, m2, hn, hc2, q2⟩ := takeN (S := S ++ [.lst []]) (k := b) (c := c1) (m := m1) (many := 3) (by rw [List.length_append]; omega) hc1 (by decide) (by decide)
  have q2' : F_law_take [.ref b, .int 3] (Bg (S ++ [.lst []]) b c1 m1) = .ok (.int (n : Nat)) (Bg (S ++ [.lst []]) b c2 m2) := q2
  obtain ⟨WS, J, st, c3, m3, hc3, s1, s2, lW, hw, g, q3⟩ := ob_outer hb (rngD 0 ((1 + n : Nat) : Int)) (rngD 0 ((1 + n : Nat) : Int)) (s : Nat) [] [] c2 m2 hc2 (by omega) (by rw [rngD_len]; omega) (by rw [rngD_len]; simp; omega) (fun w h => absurd h List.not_mem_nil) ⟨fun r h => absurd h (by simp), by simp⟩
  rw [rngD_len] at s2 lW
  have lW' : WS.length = 1 + n := by rw [lW]; simp; omega
  have lS : (Bg S b c m).length = S.length := Bg_len
  have eN : Bg S b c m ++ [DO.lst []] = Bg (S ++ [.lst []]) b c m := Bg_app hb
  have ff : sFor [3, 4, 5, 6, 7, 8] (.nm 3) (iR1 (e2 addD (eC (.int 1)) (eFn F_law_take [(eVar 0), (eC (.int 3))]))) b_law_book_2 [some (.ref b), some (.ref S.length), some (.int (s : Nat)), none, none, none, none, none, none] (Bg (S ++ [.lst []]) b c1 m1) = .next [some (.ref b), some (.ref S.length), some (.int st), none, none, none, none, none, none] (Bg (obS S WS J) b c3 m3) := by
    rw [ap_For, ap_iR1]
    have e1 : (e2 addD (eC (.int 1)) (eFn F_law_take [(eVar 0), (eC (.int 3))])) [some (.ref b), some (.ref S.length), some (.int (s : Nat)), none, none, none, none, none, none] (Bg (S ++ [.lst []]) b c1 m1) = .ok (.int ((1 + n : Nat) : Int)) (Bg (S ++ [.lst []]) b c2 m2) := by
      simp only [goS, q2', addD_int]
      rw [show (1 : Int) + ((n : Nat) : Int) = ((1 + n : Nat) : Int) by omega]
    rw [e1, Res.bind_ok, srcR1_ap, if_pos (rg (by omega)), Res.stm_ok]
    have e2 : obS S [] [] = S ++ [.lst []] := by simp [obS]
    rw [e2] at q3
    exact q3
  have at1 : (Bg (obS S WS J) b c3 m3)[S.length]? = some (.lst (WS.map wkD)) := by
    unfold Bg obS
    rw [List.getElem?_set_ne (by omega)]
    simp
  refine ⟨WS, c3, m3, hc3, ⟨by omega, fun w h => ⟨by have := hw w h; omega, fun r hr => (g.1 r (List.mem_flatten.mpr ⟨w, h, hr⟩)).1⟩⟩, by omega, by omega, hw, g.mono (by omega), ?_⟩
  simp only [F_law_book, runD, b_law_book, go0, goS, lS, eN, q1', ff, tupD_ref at1]
  unfold obS
  rw [← Bg_app hb]
  exact fin_bg hb (wsD_gnd WS)
structure Ly (n : Nat) (d : D) : Prop where
  lay : d.py.canLay0 = true
  dep : d.py.depth ≤ n
  flat : ∀ S, pyOf S d = d.py
theorem Ly.int (i : Int) (n : Nat) : Ly n (.int i) := ⟨rfl, Nat.zero_le _, fun _ => rfl⟩
theorem Ly.bl (i : Bool) (n : Nat) : Ly n (.bl i) := ⟨rfl, Nat.zero_le _, fun _ => rfl⟩
theorem Ly.non (n : Nat) : Ly n .non := ⟨rfl, Nat.zero_le _, fun _ => rfl⟩
theorem Ly.str {x : Str} (h : (PyData.str x).canLay0 = true) (n : Nat) : Ly n (.str x) := ⟨h, Nat.zero_le _, fun _ => rfl⟩
theorem ly_all {n : Nat} : ∀ xs : List D, (∀ x ∈ xs, Ly n x) → PyData.canLayAll0 (pys xs) = true ∧ PyData.depthAll (pys xs) ≤ n
  | [], _ => ⟨rfl, Nat.zero_le _⟩
  | x :: xs, h => by
    have h1 := h x List.mem_cons_self
    obtain ⟨h2, h3⟩ := ly_all xs fun y hy => h y (List.mem_cons_of_mem _ hy)
    have h4 := h1.dep
    refine ⟨by simp [pys, PyData.canLayAll0, h1.lay, h2], ?_⟩
    simp only [pys, PyData.depthAll]
    omega
theorem Ly.tup {n : Nat} {xs : List D} (h : ∀ x ∈ xs, Ly n x) : Ly (n + 1) (.tup xs) := by
  obtain ⟨h1, h2⟩ := ly_all xs h
  refine ⟨by simp only [D.py, PyData.canLay0]; exact h1, ?_, fun _ => rfl⟩
  simp only [D.py, PyData.depth]
  omega
theorem Ly.lst {n : Nat} {xs : List D} (h : ∀ x ∈ xs, Ly n x) : Ly (n + 1) (.lst xs) := by
  obtain ⟨h1, h2⟩ := ly_all xs h
  refine ⟨by simp only [D.py, PyData.canLay0]; exact h1, ?_, fun _ => rfl⟩
  simp only [D.py, PyData.depth]
  omega
theorem Ly.shp {n : Nat} {d : D} (h : Ly n d) (hn : n ≤ 64) (S : Sto) : Pu.shp S d = true := by
  have := h.dep
  unfold Pu.shp SeqAt.shaped
  rw [h.flat, h.lay]
  simp
  omega
theorem Ly.up {n m : Nat} {d : D} (h : Ly n d) (hn : n ≤ m) : Ly m d := ⟨h.lay, Nat.le_trans h.dep hn, h.flat⟩
/-- x == () -/
theorem eq_nilT {n : Nat} {xs : List D} (h : Ly n (.tup xs)) (hn : n ≤ 64) (neg : Bool) (S : Sto) : eqD neg (.tup xs) (.tup []) S = .ok (.bl (if neg = true then !xs.isEmpty else xs.isEmpty)) S := by
  have h2 : Pu.shp S (.tup []) = true := (Ly.tup (n := 0) (xs := []) fun x hx => absurd hx List.not_mem_nil).shp (by decide) S
  have h3 : Pu.eqB S (.tup xs) (.tup []) = xs.isEmpty := by
    show PyData.eqv (.tuple (pys xs)) (.tuple (pys [])) = _
    cases xs with
    | nil => simp [pys, PyData.eqv, PyData.eqvAll]
    | cons x xs => simp [pys, PyData.eqv, PyData.eqvAll]
  unfold eqD
  rw [if_pos ⟨h.shp hn S, h2⟩, h3]
theorem str_cmp {x y : Str} (hx : (PyData.str x).canLay0 = true) (hy : (PyData.str y).canLay0 = true) (neg : Bool) (S : Sto) : eqD neg (.str x) (.str y) S = .ok (.bl (if neg = true then !decide (x = y) else decide (x = y))) S := by
  have h1 : ∀ x : Str, (PyData.str x).canLay0 = true → Pu.shp S (.str x) = true := fun x h => (Ly.str h 0).shp (by decide) S
  have h2 : Pu.eqB S (.str x) (.str y) = decide (x = y) := by
    show PyData.eqv (PyData.str x) (PyData.str y) = _
    by_cases e : x = y
    · simp [PyData.eqv, e]
    · simp [PyData.eqv, e]
  unfold eqD
  rw [if_pos ⟨h1 x hx, h1 y hy⟩, h2]
/-- words that can be laid -/
def Wd := { x : Str // (PyData.str x).canLay0 = true }
def wdD (w : Wd) : D := .str w.1
theorem rpWd : Rp wdD 0 := ⟨fun x y => by
    have h : PyData.eqv (PyData.str x.1) (PyData.str y.1) = true ↔ x.1 = y.1 := by simp [PyData.eqv]
    exact h.trans ⟨fun h => Subtype.ext h, fun h => by rw [h]⟩, fun w => w.2, fun _ => Nat.le_refl _, fun _ _ => rfl, fun _ => rfl⟩
instance : DecidableEq Wd := fun x y => decidable_of_iff (x.1 = y.1) ⟨fun h => Subtype.ext h, fun h => by rw [h]⟩
theorem lc_st {α : Type} {tg : Tg} {f : Ev D} {e : En} {S : Sto} {k : Nat} {ys : List D} (v g : α → D) (hS : S[k]? = some (.lst ys)) : ∀ xs : List α, (∀ x ∈ xs, ∃ e1, bindT tg (v x) e = some e1 ∧ f e1 S = .ok (g x) S) → lcD tg (.st k ys) tYesD f e (xs.map v) S = .ok (xs.map g) S
  | [], _ => by
    rw [List.map_nil, lcD_nil, if_pos (show (Src.st k ys).ok S from hS)]
    rfl
  | x :: xs, h => by
    obtain ⟨e1, q1, q2⟩ := h x List.mem_cons_self
    rw [List.map_cons, lcD_cons, if_pos (show (Src.st k ys).ok S from hS), q1]
    simp only [ap_yes, nox_ok, Res.bind_ok, if_true, q2, lc_st v g hS xs fun y hy => h y (List.mem_cons_of_mem _ hy)]
    rfl
theorem nLcS_ref {vs : List Nat} {tg : Tg} {f g : Ev D} {e : En} {S : Sto} {k : Nat} {xs ys : List D} (hf : f e S = .ok (.ref k) S) (h : S[k]? = some (.lst xs)) (hl : xs.length < 1048576) (q : lcD tg (.st k xs) tYesD g (wipeE e vs) xs S = .ok ys S) : nLc vs tg (iS f) tYesD g e S = .ok (.lst ys) S := by
  rw [ap_Lc, ap_iS, hf, Res.bind_ok, srcS_ref h, Res.bind_ok]
  simp only [Src.items_st]
  rw [if_pos (Nat.le_of_lt (sz hl)), q, Res.bind_ok]
theorem exc_same {S : Sto} {c : Str} {e : En} : retD .frz S (.exc c e S) = .exc c S := by
  show (if Clo S S then (Res.exc c (S.take S.length) : Res D) else .bad) = _
  rw [if_pos .refl, List.take_length]
theorem exc_app {S T : Sto} {c : Str} {e : En} : retD .frz S (.exc c e (S ++ T)) = .exc c S := by
  show (if Clo S (S ++ T) then (Res.exc c ((S ++ T).take S.length) : Res D) else .bad) = _
  rw [if_pos .app, List.take_left]
theorem ap_raise {x : Str} {e : En} {S : Sto} : sRaise x e S = .exc x e S := id rfl
theorem seq_exc {c : Str} {e : En} {S : Sto} {b : Stm} : (SRes.exc c e S).seq b = .exc c e S := id rfl
theorem stm_exc {α : Type} {c : Str} {S : Sto} {e : En} {k : α → Sto → SRes} : (Res.exc c S : Res α).stm e k = .exc c e S := id rfl
theorem bind_exc {α β : Type} {c : Str} {S : Sto} {k : α → Sto → Res β} : (Res.exc c S : Res α).bind k = .exc c S := id rfl
theorem try_ok {ks : List (Str × Bool)} {i : Nat} {u : Stm} {hd : Str → Stm} {e e1 : En} {S S1 : Sto} (h : u e S = .next e1 S1) : sTry ks i u hd e S = .next e1 S1 := by
  unfold sTry
  rw [h]
theorem try_ret {ks : List (Str × Bool)} {i : Nat} {u : Stm} {hd : Str → Stm} {e : En} {S S1 : Sto} {d : D} (h : u e S = .ret d S1) : sTry ks i u hd e S = .ret d S1 := by
  unfold sTry
  rw [h]
theorem try_got {ks : List (Str × Bool)} {i : Nat} {u : Stm} {hd : Str → Stm} {e e1 : En} {S S1 S2 : Sto} {c : Str} {d : D} (h : u e S = .exc c e1 S1) (hl : ks.lookup c = some true) (h9 : e1[i]?.isSome = true) (h2 : hd c (e1.set i none) S1 = .ret d S2) : sTry ks i u hd e S = .ret d S2 := by
  unfold sTry
  rw [h]
  simp only [hl, h9, if_true, h2]
abbrev Ad := Int × Int
def AdOk (a : Ad) : Prop := 0 ≤ a.1 ∧ a.1 < 31 ∧ 1 ≤ a.2 ∧ a.2 < 596216567187872108348956733961803993281
theorem sl_fwd : (PyData.str "forward").canLay0 = true := by decide +kernel
theorem sl_hold : (PyData.str "hold").canLay0 = true := by decide +kernel
/-- an order: of an address, to another one or none (a hold), the first day and the last one -/
def ordD (a : Ad) (o : Option Ad) (f l : Int) : D := match o with
  | none => .tup [.str "hold", rowD a, .int f, .int l]
  | some b => .tup [.str "forward", rowD a, rowD b, .int f, .int l]
def OrdOk (a : Ad) (o : Option Ad) (f l : Int) : Prop := AdOk a ∧ (∀ b, o = some b → AdOk b ∧ a ≠ b) ∧ 0 ≤ f ∧ f ≤ l
theorem eq_hf (S : Sto) : eqD false (.str "hold") (.str "forward") S = .ok (.bl false) S := by rw [str_cmp sl_hold sl_fwd]; rfl
theorem eq_fh (S : Sto) : eqD false (.str "forward") (.str "hold") S = .ok (.bl false) S := by rw [str_cmp sl_fwd sl_hold]; rfl
theorem eq_hh (S : Sto) : eqD false (.str "hold") (.str "hold") S = .ok (.bl true) S := by rw [str_cmp sl_hold sl_hold]; rfl
theorem eq_ff (S : Sto) : eqD false (.str "forward") (.str "forward") S = .ok (.bl true) S := by rw [str_cmp sl_fwd sl_fwd]; rfl
theorem rowLy (a : Ad) : Ly 1 (rowD a) := ⟨rpRow.lay a, rpRow.dep a, rpRow.flat a⟩
abbrev Or := Ad × Option Ad × Int × Int
def orD (x : Or) : D := ordD x.1 x.2.1 x.2.2.1 x.2.2.2
def OOk (x : Or) : Prop := OrdOk x.1 x.2.1 x.2.2.1 x.2.2.2
theorem any_bls {α : Type} (p : α → Bool) (xs : List α) : (xs.map p).any id = xs.any p := by
  rw [List.any_map]
  rfl
def osD (os : List Or) : D := .tup (os.map orD)
theorem orD_gnd (x : Or) : (orD x).gnd = true := by
  obtain ⟨a, o, f, l⟩ := x
  cases o <;> rfl
theorem ofString_inj {s t : String} : Str.ofString s = Str.ofString t ↔ s = t := by
  constructor
  · intro h
    have h1 : (TL.tl (Str.ofString s)) = TL.tl (Str.ofString t) := by rw [h]
    rw [TL.tl_ofString, TL.tl_ofString] at h1
    have h2 : s.toList = t.toList := (List.map_inj_right fun a b e => Char.toNat_inj.mp e).mp h1
    exact String.toList_inj.mp h2
  · rintro rfl
    rfl
theorem ofString_beq {s t : String} : (Str.ofString s == Str.ofString t) = decide (s = t) := by
  rw [Bool.eq_iff_iff, beq_iff_eq, decide_eq_true_iff]
  exact ofString_inj
structure Ofc where
  ws : List Wk
  os : List Or
  day : Int
  hand : List (Int × Int)
  held : List (Ad × Int)
  astray : List (Ad × Int)
  unread : List (Int × Str × Int)
  many : Int
  bundled : List (Int × Int)
  gone : Int
def amD (r : Ad × Int) : D := .tup [rowD r.1, .int r.2]
def unD (r : Int × Str × Int) : D := .tup [.int r.1, .str r.2.1, .int r.2.2]
def ofF (st : Ofc) (a b c : Nat) : List (Str × D) := [("walks", wsD st.ws), ("today", .int st.day), ("in_force", osD st.os), ("loose", tpD rowD st.hand), ("kept", .ref a), ("strays", .ref b), ("unread", .ref c), ("numbered", .int st.many), ("sorted_on", tpD rowD st.bundled), ("left", .int st.gone)]
def stF (st : Ofc) : List (Key × D) := [(.inr "book", wsD st.ws), (.inr "orders", osD st.os), (.inr "day", .int st.day), (.inr "hand", tpD rowD st.hand), (.inr "held", tpD amD st.held), (.inr "astray", tpD amD st.astray), (.inr "unread", tpD unD st.unread), (.inr "many", .int st.many), (.inr "bundled", tpD rowD st.bundled), (.inr "gone", .int st.gone)]
def ofO (st : Ofc) (a b c : Nat) : DO := .ins "Office" (ofF st a b c)
theorem ixD_key {S : Sto} {d : D} {x : Str} {kvs : List (Key × D)} (h : dcOf S d = some kvs) : ixD d (.str x) S = opt (getK kvs (.inr x)) S := by
  unfold ixD
  simp only [h, Pu.keyOf]
theorem stD_key {S : Sto} {k : Nat} {x : Str} {v : D} {kvs : List (Key × D)} (h : S[k]? = some (.dct kvs)) (hl : kvs.length < sizeLine) : stD (.ref k) (.str x) v S = some (S.set k (.dct (putD kvs (.inr x) v))) := by
  simp only [stD, h, Pu.keyOf, Option.bind_some]
  rw [if_pos hl]
section
variable {S : Sto} {o a b c : Nat} {st : Ofc}
theorem of_walks (h : S[o]? = some (ofO st a b c)) : fldD "Office" "walks" (.ref o) S = .ok (wsD st.ws) S := by
  rw [fldD_ref h]
  simp [ofF, List.lookup_cons, ofString_beq]
theorem of_today (h : S[o]? = some (ofO st a b c)) : fldD "Office" "today" (.ref o) S = .ok (.int st.day) S := by
  rw [fldD_ref h]
  simp [ofF, List.lookup_cons, ofString_beq]
theorem of_in_force (h : S[o]? = some (ofO st a b c)) : fldD "Office" "in_force" (.ref o) S = .ok (osD st.os) S := by
  rw [fldD_ref h]
  simp [ofF, List.lookup_cons, ofString_beq]
theorem of_loose (h : S[o]? = some (ofO st a b c)) : fldD "Office" "loose" (.ref o) S = .ok (tpD rowD st.hand) S := by
  rw [fldD_ref h]
  simp [ofF, List.lookup_cons, ofString_beq]
theorem of_kept (h : S[o]? = some (ofO st a b c)) : fldD "Office" "kept" (.ref o) S = .ok (.ref a) S := by
  rw [fldD_ref h]
  simp [ofF, List.lookup_cons, ofString_beq]
theorem of_strays (h : S[o]? = some (ofO st a b c)) : fldD "Office" "strays" (.ref o) S = .ok (.ref b) S := by
  rw [fldD_ref h]
  simp [ofF, List.lookup_cons, ofString_beq]
theorem of_unread (h : S[o]? = some (ofO st a b c)) : fldD "Office" "unread" (.ref o) S = .ok (.ref c) S := by
  rw [fldD_ref h]
  simp [ofF, List.lookup_cons, ofString_beq]
theorem of_numbered (h : S[o]? = some (ofO st a b c)) : fldD "Office" "numbered" (.ref o) S = .ok (.int st.many) S := by
  rw [fldD_ref h]
  simp [ofF, List.lookup_cons, ofString_beq]
theorem of_sorted_on (h : S[o]? = some (ofO st a b c)) : fldD "Office" "sorted_on" (.ref o) S = .ok (tpD rowD st.bundled) S := by
  rw [fldD_ref h]
  simp [ofF, List.lookup_cons, ofString_beq]
theorem of_left (h : S[o]? = some (ofO st a b c)) : fldD "Office" "left" (.ref o) S = .ok (.int st.gone) S := by
  rw [fldD_ref h]
  simp [ofF, List.lookup_cons, ofString_beq]
theorem os_today (h : S[o]? = some (ofO st a b c)) (v : Int) : Pu.stF "Office" "today" (.ref o) (.int v) S = some (S.set o (ofO { st with day := v } a b c)) := by
  rw [Pu.stF_ref h (by show 10 < 1000; decide)]
  simp [ofO, ofF, putFD, ofString_inj]
theorem os_in_force (h : S[o]? = some (ofO st a b c)) (v : List Or) : Pu.stF "Office" "in_force" (.ref o) (osD v) S = some (S.set o (ofO { st with os := v } a b c)) := by
  rw [Pu.stF_ref h (by show 10 < 1000; decide)]
  simp [ofO, ofF, putFD, ofString_inj]
theorem os_loose (h : S[o]? = some (ofO st a b c)) (v : List (Int × Int)) : Pu.stF "Office" "loose" (.ref o) (tpD rowD v) S = some (S.set o (ofO { st with hand := v } a b c)) := by
  rw [Pu.stF_ref h (by show 10 < 1000; decide)]
  simp [ofO, ofF, putFD, ofString_inj]
theorem os_numbered (h : S[o]? = some (ofO st a b c)) (v : Int) : Pu.stF "Office" "numbered" (.ref o) (.int v) S = some (S.set o (ofO { st with many := v } a b c)) := by
  rw [Pu.stF_ref h (by show 10 < 1000; decide)]
  simp [ofO, ofF, putFD, ofString_inj]
theorem os_sorted_on (h : S[o]? = some (ofO st a b c)) (v : List (Int × Int)) : Pu.stF "Office" "sorted_on" (.ref o) (tpD rowD v) S = some (S.set o (ofO { st with bundled := v } a b c)) := by
  rw [Pu.stF_ref h (by show 10 < 1000; decide)]
  simp [ofO, ofF, putFD, ofString_inj]
theorem os_left (h : S[o]? = some (ofO st a b c)) (v : Int) : Pu.stF "Office" "left" (.ref o) (.int v) S = some (S.set o (ofO { st with gone := v } a b c)) := by
  rw [Pu.stF_ref h (by show 10 < 1000; decide)]
  simp [ofO, ofF, putFD, ofString_inj]
theorem os_kept (h : S[o]? = some (ofO st a b c)) (k : Nat) : Pu.stF "Office" "kept" (.ref o) (.ref k) S = some (S.set o (ofO st k b c)) := by
  rw [Pu.stF_ref h (by show 10 < 1000; decide)]
  simp [ofO, ofF, putFD, ofString_inj]
theorem om_order (h : S[o]? = some (ofO st a b c)) : isM "Office" "order" (.ref o) S = true := isM_ref h (by simp [ofF, List.lookup_cons, ofString_beq])
theorem om_go (h : S[o]? = some (ofO st a b c)) : isM "Office" "go" (.ref o) S = true := isM_ref h (by simp [ofF, List.lookup_cons, ofString_beq])
theorem om_put (h : S[o]? = some (ofO st a b c)) : isM "Office" "put" (.ref o) S = true := isM_ref h (by simp [ofF, List.lookup_cons, ofString_beq])
theorem om_bag (h : S[o]? = some (ofO st a b c)) : isM "Office" "bag" (.ref o) S = true := isM_ref h (by simp [ofF, List.lookup_cons, ofString_beq])
theorem om_keyed (h : S[o]? = some (ofO st a b c)) : isM "Office" "keyed" (.ref o) S = true := isM_ref h (by simp [ofF, List.lookup_cons, ofString_beq])
theorem om_work (h : S[o]? = some (ofO st a b c)) : isM "Office" "work" (.ref o) S = true := isM_ref h (by simp [ofF, List.lookup_cons, ofString_beq])
theorem om_bundle (h : S[o]? = some (ofO st a b c)) : isM "Office" "bundle" (.ref o) S = true := isM_ref h (by simp [ofF, List.lookup_cons, ofString_beq])
theorem om_leave (h : S[o]? = some (ofO st a b c)) : isM "Office" "leave" (.ref o) S = true := isM_ref h (by simp [ofF, List.lookup_cons, ofString_beq])
theorem om_is_held (h : S[o]? = some (ofO st a b c)) : isM "Office" "is_held" (.ref o) S = true := isM_ref h (by simp [ofF, List.lookup_cons, ofString_beq])
theorem om_day (h : S[o]? = some (ofO st a b c)) : isM "Office" "day" (.ref o) S = true := isM_ref h (by simp [ofF, List.lookup_cons, ofString_beq])
theorem om_orders (h : S[o]? = some (ofO st a b c)) : isM "Office" "orders" (.ref o) S = true := isM_ref h (by simp [ofF, List.lookup_cons, ofString_beq])
theorem om_hand (h : S[o]? = some (ofO st a b c)) : isM "Office" "hand" (.ref o) S = true := isM_ref h (by simp [ofF, List.lookup_cons, ofString_beq])
theorem om_held (h : S[o]? = some (ofO st a b c)) : isM "Office" "held" (.ref o) S = true := isM_ref h (by simp [ofF, List.lookup_cons, ofString_beq])
theorem om_astray (h : S[o]? = some (ofO st a b c)) : isM "Office" "astray" (.ref o) S = true := isM_ref h (by simp [ofF, List.lookup_cons, ofString_beq])
theorem om_unreadable (h : S[o]? = some (ofO st a b c)) : isM "Office" "unreadable" (.ref o) S = true := isM_ref h (by simp [ofF, List.lookup_cons, ofString_beq])
theorem om_bundled (h : S[o]? = some (ofO st a b c)) : isM "Office" "bundled" (.ref o) S = true := isM_ref h (by simp [ofF, List.lookup_cons, ofString_beq])
theorem om_counts (h : S[o]? = some (ofO st a b c)) : isM "Office" "counts" (.ref o) S = true := isM_ref h (by simp [ofF, List.lookup_cons, ofString_beq])
theorem gk_book : getK (stF st) (.inr "book") = some (wsD st.ws) := by simp [getK, stF, ofString_inj]
theorem sx_book (h : S[o]? = some (.dct (stF st))) : ixD (.ref o) (.str "book") S = .ok (wsD st.ws) S := by
  rw [ixD_key (dcOf_ref h), gk_book]
  rfl
theorem sd_book {X : D} (h : dcOf S X = some (stF st)) : ixD X (.str "book") S = .ok (wsD st.ws) S := by
  rw [ixD_key h, gk_book]
  rfl
theorem gk_orders : getK (stF st) (.inr "orders") = some (osD st.os) := by simp [getK, stF, ofString_inj]
theorem sx_orders (h : S[o]? = some (.dct (stF st))) : ixD (.ref o) (.str "orders") S = .ok (osD st.os) S := by
  rw [ixD_key (dcOf_ref h), gk_orders]
  rfl
theorem sd_orders {X : D} (h : dcOf S X = some (stF st)) : ixD X (.str "orders") S = .ok (osD st.os) S := by
  rw [ixD_key h, gk_orders]
  rfl
theorem gk_day : getK (stF st) (.inr "day") = some (.int st.day) := by simp [getK, stF, ofString_inj]
theorem sx_day (h : S[o]? = some (.dct (stF st))) : ixD (.ref o) (.str "day") S = .ok (.int st.day) S := by
  rw [ixD_key (dcOf_ref h), gk_day]
  rfl
theorem sd_day {X : D} (h : dcOf S X = some (stF st)) : ixD X (.str "day") S = .ok (.int st.day) S := by
  rw [ixD_key h, gk_day]
  rfl
theorem gk_hand : getK (stF st) (.inr "hand") = some (tpD rowD st.hand) := by simp [getK, stF, ofString_inj]
theorem sx_hand (h : S[o]? = some (.dct (stF st))) : ixD (.ref o) (.str "hand") S = .ok (tpD rowD st.hand) S := by
  rw [ixD_key (dcOf_ref h), gk_hand]
  rfl
theorem sd_hand {X : D} (h : dcOf S X = some (stF st)) : ixD X (.str "hand") S = .ok (tpD rowD st.hand) S := by
  rw [ixD_key h, gk_hand]
  rfl
theorem gk_held : getK (stF st) (.inr "held") = some (tpD amD st.held) := by simp [getK, stF, ofString_inj]
theorem sx_held (h : S[o]? = some (.dct (stF st))) : ixD (.ref o) (.str "held") S = .ok (tpD amD st.held) S := by
  rw [ixD_key (dcOf_ref h), gk_held]
  rfl
theorem sd_held {X : D} (h : dcOf S X = some (stF st)) : ixD X (.str "held") S = .ok (tpD amD st.held) S := by
  rw [ixD_key h, gk_held]
  rfl
theorem gk_astray : getK (stF st) (.inr "astray") = some (tpD amD st.astray) := by simp [getK, stF, ofString_inj]
theorem sx_astray (h : S[o]? = some (.dct (stF st))) : ixD (.ref o) (.str "astray") S = .ok (tpD amD st.astray) S := by
  rw [ixD_key (dcOf_ref h), gk_astray]
  rfl
theorem sd_astray {X : D} (h : dcOf S X = some (stF st)) : ixD X (.str "astray") S = .ok (tpD amD st.astray) S := by
  rw [ixD_key h, gk_astray]
  rfl
theorem gk_unread : getK (stF st) (.inr "unread") = some (tpD unD st.unread) := by simp [getK, stF, ofString_inj]
theorem sx_unread (h : S[o]? = some (.dct (stF st))) : ixD (.ref o) (.str "unread") S = .ok (tpD unD st.unread) S := by
  rw [ixD_key (dcOf_ref h), gk_unread]
  rfl
theorem sd_unread {X : D} (h : dcOf S X = some (stF st)) : ixD X (.str "unread") S = .ok (tpD unD st.unread) S := by
  rw [ixD_key h, gk_unread]
  rfl
theorem gk_many : getK (stF st) (.inr "many") = some (.int st.many) := by simp [getK, stF, ofString_inj]
theorem sx_many (h : S[o]? = some (.dct (stF st))) : ixD (.ref o) (.str "many") S = .ok (.int st.many) S := by
  rw [ixD_key (dcOf_ref h), gk_many]
  rfl
theorem sd_many {X : D} (h : dcOf S X = some (stF st)) : ixD X (.str "many") S = .ok (.int st.many) S := by
  rw [ixD_key h, gk_many]
  rfl
theorem gk_bundled : getK (stF st) (.inr "bundled") = some (tpD rowD st.bundled) := by simp [getK, stF, ofString_inj]
theorem sx_bundled (h : S[o]? = some (.dct (stF st))) : ixD (.ref o) (.str "bundled") S = .ok (tpD rowD st.bundled) S := by
  rw [ixD_key (dcOf_ref h), gk_bundled]
  rfl
theorem sd_bundled {X : D} (h : dcOf S X = some (stF st)) : ixD X (.str "bundled") S = .ok (tpD rowD st.bundled) S := by
  rw [ixD_key h, gk_bundled]
  rfl
theorem gk_gone : getK (stF st) (.inr "gone") = some (.int st.gone) := by simp [getK, stF, ofString_inj]
theorem sx_gone (h : S[o]? = some (.dct (stF st))) : ixD (.ref o) (.str "gone") S = .ok (.int st.gone) S := by
  rw [ixD_key (dcOf_ref h), gk_gone]
  rfl
theorem sd_gone {X : D} (h : dcOf S X = some (stF st)) : ixD X (.str "gone") S = .ok (.int st.gone) S := by
  rw [ixD_key h, gk_gone]
  rfl
theorem sp_orders (v : List Or) : putD (stF st) (.inr "orders") (osD v) = stF { st with os := v } := by simp [putD, stF, ofString_inj]
theorem ss_orders (h : S[o]? = some (.dct (stF st))) (v : List Or) : stD (.ref o) (.str "orders") (osD v) S = some (S.set o (.dct (stF { st with os := v }))) := by
  rw [stD_key h (by show 10 < sizeLine; exact Pu.sz (by decide)), sp_orders]
theorem sp_day (v : Int) : putD (stF st) (.inr "day") (.int v) = stF { st with day := v } := by simp [putD, stF, ofString_inj]
theorem ss_day (h : S[o]? = some (.dct (stF st))) (v : Int) : stD (.ref o) (.str "day") (.int v) S = some (S.set o (.dct (stF { st with day := v }))) := by
  rw [stD_key h (by show 10 < sizeLine; exact Pu.sz (by decide)), sp_day]
theorem sp_hand (v : List (Int × Int)) : putD (stF st) (.inr "hand") (tpD rowD v) = stF { st with hand := v } := by simp [putD, stF, ofString_inj]
theorem ss_hand (h : S[o]? = some (.dct (stF st))) (v : List (Int × Int)) : stD (.ref o) (.str "hand") (tpD rowD v) S = some (S.set o (.dct (stF { st with hand := v }))) := by
  rw [stD_key h (by show 10 < sizeLine; exact Pu.sz (by decide)), sp_hand]
theorem sp_held (v : List (Ad × Int)) : putD (stF st) (.inr "held") (tpD amD v) = stF { st with held := v } := by simp [putD, stF, ofString_inj]
theorem ss_held (h : S[o]? = some (.dct (stF st))) (v : List (Ad × Int)) : stD (.ref o) (.str "held") (tpD amD v) S = some (S.set o (.dct (stF { st with held := v }))) := by
  rw [stD_key h (by show 10 < sizeLine; exact Pu.sz (by decide)), sp_held]
theorem sp_astray (v : List (Ad × Int)) : putD (stF st) (.inr "astray") (tpD amD v) = stF { st with astray := v } := by simp [putD, stF, ofString_inj]
theorem ss_astray (h : S[o]? = some (.dct (stF st))) (v : List (Ad × Int)) : stD (.ref o) (.str "astray") (tpD amD v) S = some (S.set o (.dct (stF { st with astray := v }))) := by
  rw [stD_key h (by show 10 < sizeLine; exact Pu.sz (by decide)), sp_astray]
theorem sp_unread (v : List (Int × Str × Int)) : putD (stF st) (.inr "unread") (tpD unD v) = stF { st with unread := v } := by simp [putD, stF, ofString_inj]
theorem ss_unread (h : S[o]? = some (.dct (stF st))) (v : List (Int × Str × Int)) : stD (.ref o) (.str "unread") (tpD unD v) S = some (S.set o (.dct (stF { st with unread := v }))) := by
  rw [stD_key h (by show 10 < sizeLine; exact Pu.sz (by decide)), sp_unread]
theorem sp_many (v : Int) : putD (stF st) (.inr "many") (.int v) = stF { st with many := v } := by simp [putD, stF, ofString_inj]
theorem ss_many (h : S[o]? = some (.dct (stF st))) (v : Int) : stD (.ref o) (.str "many") (.int v) S = some (S.set o (.dct (stF { st with many := v }))) := by
  rw [stD_key h (by show 10 < sizeLine; exact Pu.sz (by decide)), sp_many]
theorem sp_bundled (v : List (Int × Int)) : putD (stF st) (.inr "bundled") (tpD rowD v) = stF { st with bundled := v } := by simp [putD, stF, ofString_inj]
theorem ss_bundled (h : S[o]? = some (.dct (stF st))) (v : List (Int × Int)) : stD (.ref o) (.str "bundled") (tpD rowD v) S = some (S.set o (.dct (stF { st with bundled := v }))) := by
  rw [stD_key h (by show 10 < sizeLine; exact Pu.sz (by decide)), sp_bundled]
theorem sp_gone (v : Int) : putD (stF st) (.inr "gone") (.int v) = stF { st with gone := v } := by simp [putD, stF, ofString_inj]
theorem ss_gone (h : S[o]? = some (.dct (stF st))) (v : Int) : stD (.ref o) (.str "gone") (.int v) S = some (S.set o (.dct (stF { st with gone := v }))) := by
  rw [stD_key h (by show 10 < sizeLine; exact Pu.sz (by decide)), sp_gone]
end
def lsR (r : Rn) : List Int := (List.range (hsR r).toNat).map fun i : Nat => r.2.1 + (i : Int) * r.2.2.2
def Near (r : Rn) : Prop := RnOk r ∧ hsR r ≤ 8
theorem hsR_n {r : Rn} (h : RnOk r) : ∃ n : Nat, r.2.2.1 = r.2.1 + n * r.2.2.2 ∧ hsR r = n + 1 := by
  obtain ⟨_, _, _, _, _, _, ht, n, hn⟩ := h
  refine ⟨n, hn, ?_⟩
  unfold hsR fdivI
  rw [hn]
  rcases stp_cases ht with e | e | e | e <;> rw [e]
  · rw [if_pos (by decide)]; omega
  · rw [if_pos (by decide)]; omega
  · rw [if_neg (by decide), Int.neg_neg]; omega
  · rw [if_neg (by decide), Int.neg_neg]; omega
theorem mem_ls {r : Rn} (h : RnOk r) (c : Int) : c ∈ lsR r ↔ hasR r c := by
  obtain ⟨n, hn, hh⟩ := hsR_n h
  have ht := h.2.2.2.2.2.2.1
  have e : c ∈ lsR r ↔ ∃ i : Nat, i ≤ n ∧ c = r.2.1 + (i : Int) * r.2.2.2 := by
    unfold lsR
    rw [hh, List.mem_map]
    constructor
    · rintro ⟨i, hi, e⟩
      have := List.mem_range.mp hi
      exact ⟨i, by omega, e.symm⟩
    · rintro ⟨i, hi, e⟩
      exact ⟨i, List.mem_range.mpr (by omega), e.symm⟩
  rw [e]
  unfold hasR
  rcases stp_cases ht with et | et | et | et <;> rw [et] at hn ⊢
  · rw [show (((1 : Int).natAbs : Nat) : Int) = 1 from rfl]
    constructor
    · rintro ⟨i, hi, e⟩; omega
    · intro hc; exact ⟨(c - r.2.1).toNat, by omega, by omega⟩
  · rw [show (((2 : Int).natAbs : Nat) : Int) = 2 from rfl]
    constructor
    · rintro ⟨i, hi, e⟩; omega
    · intro hc; exact ⟨((c - r.2.1) / 2).toNat, by omega, by omega⟩
  · rw [show (((-1 : Int).natAbs : Nat) : Int) = 1 from rfl]
    constructor
    · rintro ⟨i, hi, e⟩; omega
    · intro hc; exact ⟨(r.2.1 - c).toNat, by omega, by omega⟩
  · rw [show (((-2 : Int).natAbs : Nat) : Int) = 2 from rfl]
    constructor
    · rintro ⟨i, hi, e⟩; omega
    · intro hc; exact ⟨((r.2.1 - c) / 2).toNat, by omega, by omega⟩
theorem fit_place {p : Int} {s : Int} (hs : s ∈ stp) : FitMul p s := .right (by rcases stp_cases hs with e | e | e | e <;> rw [e] <;> decide) (by rcases stp_cases hs with e | e | e | e <;> rw [e] <;> decide)
theorem house_yes (r : Rn) (h : RnOk r) (p : Int) (p0 : 0 ≤ p) (p1 : p < hsR r) (S : Sto) : Fhouse_at [rnD r, .int p] S = .ok (.int (r.2.1 + p * r.2.2.2)) S := by
  have hh := houses_is r h S
  have i1 : ixD (rnD r) (.int 1) S = .ok (.int r.2.1) S := rfl
  have i3 : ixD (rnD r) (.int 3) S = .ok (.int r.2.2.2) S := rfl
  simp only [Fhouse_at, runD, bhouse_at, go0, goS, hh, leD_i, ltD_i, p0, p1, decide_true, Bool.not_true, i1, i3, mulD_ok (fit_place h.2.2.2.2.2.2.1), addD_int]
  exact fin_same rfl
theorem house_no (r : Rn) (h : RnOk r) (p : Int) (hp : ¬ (0 ≤ p ∧ p < hsR r)) (S : Sto) : Fhouse_at [rnD r, .int p] S = .exc "NoStop" S := by
  have hh := houses_is r h S
  by_cases p0 : 0 ≤ p
  · have p1 : ¬ p < hsR r := fun z => hp ⟨p0, z⟩
    simp only [Fhouse_at, runD, bhouse_at, go0, goS, hh, leD_i, ltD_i, p0, p1, decide_true, decide_false, Bool.not_false, ap_raise, seq_exc]
    exact exc_same
  · simp only [Fhouse_at, runD, bhouse_at, go0, goS, leD_i, p0, decide_false, Bool.not_false, ap_raise, seq_exc]
    exact exc_same
theorem idxI_of : ∀ {xs : List Int} {v : Int} {j : Nat}, xs[j]? = some v → (∀ m, m < j → xs[m]? ≠ some v) → idxI xs v = some j
  | [], v, j, h, _ => by simp at h
  | x :: xs, v, 0, h, _ => by
    simp only [List.getElem?_cons_zero, Option.some.injEq] at h
    unfold idxI
    rw [if_pos h]
  | x :: xs, v, j + 1, h, hm => by
    have h0 := hm 0 (by omega)
    simp only [List.getElem?_cons_zero, ne_eq, Option.some.injEq] at h0
    unfold idxI
    rw [if_neg h0, idxI_of (xs := xs) (j := j) (by simpa using h) fun m hmj => by
      have := hm (m + 1) (by omega)
      simpa using this]
    rfl
theorem ls_at {r : Rn} (h : RnOk r) {i : Nat} (hi : (i : Int) < hsR r) : (lsR r)[i]? = some (r.2.1 + (i : Int) * r.2.2.2) := by
  unfold lsR
  rw [List.getElem?_map, List.getElem?_range (by omega)]
  rfl
theorem ls_len {r : Rn} (h : RnOk r) : ((lsR r).length : Int) = hsR r := by
  obtain ⟨n, _, hh⟩ := hsR_n h
  unfold lsR
  rw [List.length_map, List.length_range, hh]
  omega
theorem step_inj {r : Rn} (h : RnOk r) {i j : Int} (e : r.2.1 + i * r.2.2.2 = r.2.1 + j * r.2.2.2) : i = j := Int.eq_of_mul_eq_mul_right (stepN0 h.2.2.2.2.2.2.1) (by omega)
theorem fdiv_step {s : Int} (hs : s ∈ stp) (i : Int) : fdivI (i * s) s = i := by
  unfold fdivI
  rcases stp_cases hs with e | e | e | e <;> rw [e]
  · rw [if_pos (by decide)]; omega
  · rw [if_pos (by decide)]; omega
  · rw [if_neg (by decide), Int.neg_neg]; omega
  · rw [if_neg (by decide), Int.neg_neg]; omega
/-- the place of a number that stands there is where it stands in the list -/
theorem place_ls {r : Rn} (h : RnOk r) {c : Int} (hc : c ∈ lsR r) : ∃ j : Nat, (j : Int) < hsR r ∧ c = r.2.1 + (j : Int) * r.2.2.2 ∧ plc1 r c = some (j : Nat) ∧ idxI (lsR r) c = some j := by
  obtain ⟨j, e⟩ := List.mem_iff_getElem?.mp hc
  have hj := (List.getElem?_eq_some_iff.mp e).1
  have hl := ls_len h
  have hj2 : (j : Int) < hsR r := by omega
  rw [ls_at h hj2] at e
  have ec : c = r.2.1 + (j : Int) * r.2.2.2 := (Option.some.inj e).symm
  refine ⟨j, hj2, ec, ?_, idxI_of (by rw [ls_at h hj2, ec]) fun m hm z => ?_⟩
  · unfold plc1
    rw [if_pos ((mem_ls h c).mp hc)]
    congr 1
    rw [ec, show r.2.1 + (j : Int) * r.2.2.2 - r.2.1 = (j : Int) * r.2.2.2 by omega, fdiv_step h.2.2.2.2.2.2.1]
  · rw [ls_at h (by omega), ec] at z
    have := step_inj h (Option.some.inj z)
    omega
theorem place_not {r : Rn} (h : RnOk r) {c : Int} (hc : c ∉ lsR r) : plc1 r c = none := by
  unfold plc1
  rw [if_neg fun z => hc ((mem_ls h c).mpr z)]
def adL : List Rn → Int → Option (Int × Int)
  | [], _ => none
  | r :: R, k => if k < hsR r then some (r.1, r.2.1 + k * r.2.2.2) else adL R (k - hsR r)
theorem allT_runs (ws : List Wk) : (allT ws).map (fun x => x.2.2) = ws.flatten := by
  have e : ∀ i, (rowT ws i).map (fun x => x.2.2) = ws[i]?.getD [] := fun i => by
    unfold rowT
    rw [List.map_map]
    apply List.ext_getElem?
    intro j
    rw [List.getElem?_map]
    by_cases h : j < (ws[i]?.getD []).length
    · rw [List.getElem?_range h, List.getElem?_eq_getElem h]
      show some ((ws[i]?.getD [])[j]?.getD r0) = _
      rw [List.getElem?_eq_getElem h]
      rfl
    · have z1 : (List.range (ws[i]?.getD []).length)[j]? = none := List.getElem?_eq_none (by rw [List.length_range]; omega)
      have z2 : (ws[i]?.getD [])[j]? = none := List.getElem?_eq_none (by omega)
      rw [z1, z2]
      rfl
  unfold allT
  rw [List.map_flatMap]
  have : (fun i => (rowT ws i).map fun x => x.2.2) = fun i => ws[i]?.getD [] := funext e
  rw [this, List.flatMap_def]
  congr 1
  apply List.ext_getElem?
  intro j
  rw [List.getElem?_map]
  by_cases h : j < ws.length
  · rw [List.getElem?_range h, List.getElem?_eq_getElem h]
    show some (ws[j]?.getD []) = _
    rw [List.getElem?_eq_getElem h]
    rfl
  · have z1 : (List.range ws.length)[j]? = none := List.getElem?_eq_none (by rw [List.length_range]; omega)
    have z2 : ws[j]? = none := List.getElem?_eq_none (by omega)
    rw [z1, z2]
    rfl
theorem trD_tup (x : Tr) : trD x = .tup [.int (x.1 : Nat), .int (x.2.1 : Nat), rnD x.2.2] := rfl
abbrev daE (wd : D) (k : Int) : En := [some wd, some (.int k), none, none, none]
theorem ad_loop (wd : D) (S : Sto) (ys : List D) : ∀ (L : List Tr) (k : Int), 0 ≤ k → (∀ x ∈ L, RnOk x.2.2) → forD [2, 3, 4] (.tp [(.nm 2), (.nm 3), (.nm 4)]) (.tmp ys) baddress_of_1 (L.map trD) (daE wd k) S = (match adL (L.map (fun x => x.2.2)) k with | some v => .ret (rowD v) S | none => .next (daE wd (k - ((L.map (fun x => hsR x.2.2)).sum))) S)
  | [], k, _, _ => by
    show _ = SRes.next (daE wd (k - 0)) S
    rw [Int.sub_zero]
    exact forD_nil trivial
  | x :: L, k, k0, h => by
    obtain ⟨i, j, r⟩ := x
    have hr : RnOk r := h (i, j, r) List.mem_cons_self
    have hh := houses_is r hr S
    have hb : bindT (.tp [(.nm 2), (.nm 3), (.nm 4)]) (trD (i, j, r)) (daE wd k) = some [some wd, some (.int k), some (.int (i : Nat)), some (.int (j : Nat)), some (rnD r)] := rfl
    have i0 : ixD (rnD r) (.int 0) S = .ok (.int r.1) S := rfl
    rw [List.map_cons, forD_cons (src := .tmp ys) trivial, List.map_cons]
    by_cases hk : k < hsR r
    · have e : adL (r :: L.map fun x => x.2.2) k = some (r.1, r.2.1 + k * r.2.2.2) := by
        unfold adL
        rw [if_pos hk]
      have hy := house_yes r hr k k0 hk S
      have t : turn [2, 3, 4] (.tp [(.nm 2), (.nm 3), (.nm 4)]) baddress_of_1 (trD (i, j, r)) (daE wd k) S = .ret (rowD (r.1, r.2.1 + k * r.2.2.2)) S := by
        simp only [turn, hb]
        simp only [goS, baddress_of_1, hh, ltD_i, hk, decide_true, i0, hy]
        rfl
      rw [t, e]
    · have e : adL (r :: L.map fun x => x.2.2) k = adL (L.map fun x => x.2.2) (k - hsR r) := by
        conv => lhs; unfold adL
        rw [if_neg hk]
      have t : turn [2, 3, 4] (.tp [(.nm 2), (.nm 3), (.nm 4)]) baddress_of_1 (trD (i, j, r)) (daE wd k) S = .next (daE wd (k - hsR r)) S := by
        simp only [turn, hb]
        simp only [goS, baddress_of_1, hh, ltD_i, hk, decide_false, subD_i]
      rw [t, e]
      simp only
      rw [ad_loop wd S ys L (k - hsR r) (by omega) fun y hy => h y (List.mem_cons_of_mem _ hy), List.map_cons, List.sum_cons, Int.sub_sub]
def LNr (r : Rn) : List (Int × Int) := (lsR r).map fun c => (r.1, c)
def LN (R : List Rn) : List (Int × Int) := R.flatMap LNr
theorem LN_cons (r : Rn) (R : List Rn) : LN (r :: R) = LNr r ++ LN R := List.flatMap_cons
theorem LN_mem {R : List Rn} {a : Int × Int} : a ∈ LN R ↔ ∃ q ∈ R, q.1 = a.1 ∧ a.2 ∈ lsR q := by
  unfold LN
  rw [List.mem_flatMap]
  constructor
  · rintro ⟨q, hq, h⟩
    obtain ⟨c, hc, rfl⟩ := List.mem_map.mp h
    exact ⟨q, hq, rfl, hc⟩
  · rintro ⟨q, hq, h1, h2⟩
    exact ⟨q, hq, List.mem_map.mpr ⟨a.2, h2, by rw [h1]⟩⟩
theorem LNr_len {r : Rn} (h : RnOk r) : ((LNr r).length : Int) = hsR r := by
  unfold LNr
  rw [List.length_map, ls_len h]
theorem LN_len : ∀ {R : List Rn}, (∀ r ∈ R, RnOk r) → ((LN R).length : Int) = (R.map hsR).sum
  | [], _ => rfl
  | r :: R, h => by
    rw [LN_cons, List.length_append, List.map_cons, List.sum_cons, ← LN_len fun q hq => h q (List.mem_cons_of_mem _ hq), ← LNr_len (h r List.mem_cons_self)]
    omega
theorem ad_LN : ∀ {R : List Rn}, (∀ r ∈ R, RnOk r) → ∀ i : Nat, adL R (i : Nat) = (LN R)[i]?
  | [], _, i => by simp [LN, adL]
  | r :: R, h, i => by
    have hr := h r List.mem_cons_self
    have hl := LNr_len hr
    rw [LN_cons]
    unfold adL
    by_cases hi : (i : Int) < hsR r
    · rw [if_pos hi, List.getElem?_append_left (by omega)]
      unfold LNr
      rw [List.getElem?_map, ls_at hr hi]
      rfl
    · rw [if_neg hi, List.getElem?_append_right (by omega), show (i : Int) - hsR r = ((i - (LNr r).length : Nat) : Int) by omega]
      exact ad_LN (fun q hq => h q (List.mem_cons_of_mem _ hq)) _
def cnW (w : Wk) : Int := (w.map hsR).sum
abbrev cnsD (ws : List Wk) : D := .tup ((ws.map cnW).map D.int)
/-- a comprehension of sums over walks, whatever counts a run -/
theorem lc_sums {i j : Nat} {g : Ev D} {e : En} {S : Sto} (ws : List Wk) (h : WsOk ws) (hi : i < e.length) (hg : ∀ (w : Wk) (r : Rn), RnOk r → g ((e.set i (some (wkD w))).set j (some (rnD r))) S = .ok (.int (hsR r)) S) : lcD (.nm i) (.tmp (ws.map wkD)) tYesD (eCall (intsD fun ns => .int ns.sum) [(eAno (nLc [j] (.nm j) (iS (eVar i)) tYesD g))]) e (ws.map wkD) S = .ok (ws.map fun w => D.int (cnW w)) S := by
  refine lc_all wkD (fun w => D.int (cnW w)) ws fun w hw => ⟨e.set i (some (wkD w)), rfl, ?_⟩
  · have hv : eVar i (e.set i (some (wkD w))) S = .ok (wkD w) S := by
      simp [eVar, hi]
    have l1 : nLc [j] (.nm j) (iS (eVar i)) tYesD g (e.set i (some (wkD w))) S = .ok (.lst ((w.map hsR).map D.int)) S := by
      refine nLcS_tup (xs := w.map rnD) hv (by rw [List.length_map]; have := (h.2 w hw).1; omega) ?_
      have hwp : wipeE (e.set i (some (wkD w))) [j] = (e.set i (some (wkD w))).set j none := rfl
      rw [hwp, List.map_map]
      refine lc_all rnD (D.int ∘ hsR) w fun r hr => ⟨(e.set i (some (wkD w))).set j (some (rnD r)), ?_, hg w r ((h.2 w hw).2 r hr)⟩
      show some (((e.set i (some (wkD w))).set j none).set j (some (rnD r))) = _
      rw [List.set_set]
    simp only [goS, l1]
    exact intsD_map
theorem stops_is (ws : List Wk) (h : WsOk ws) (S : Sto) : Fstops [wsD ws] S = .ok (cnsD ws) S := by
  have hl := h.1
  have l : nLc [1] (.nm 1) (iS (eVar 0)) tYesD (eCall (intsD fun ns => .int ns.sum) [(eAno (nLc [2] (.nm 2) (iS (eVar 1)) tYesD (eFn Fhouses [(eVar 2)])))]) [some (wsD ws), none, none] S = .ok (.lst ((ws.map cnW).map D.int)) S := by
    refine nLcS_tup (xs := ws.map wkD) rfl (by rw [List.length_map]; omega) ?_
    rw [List.map_map]
    exact lc_sums (i := 1) (j := 2) (e := [some (wsD ws), none, none]) ws h (by simp) (fun w r hr => by
      have := houses_is r hr S
      show (eFn Fhouses [(eVar 2)]) [some (wsD ws), some (wkD w), some (rnD r)] S = _
      simp only [goS, this])
  simp only [Fstops, runD, bstops, go0, goS, l, tupD_lst]
  exact fin_same (gnds_ints _)
theorem addr_yes (ws : List Wk) (h : WsOk ws) (k : Int) (k0 : 0 ≤ k) {v : Int × Int} (hv : adL ws.flatten k = some v) (S : Sto) : Faddress_of [wsD ws, .int k] S = .ok (rowD v) S := by
  have hr := allruns_is ws h S
  have q := ad_loop (wsD ws) S ((allT ws).map trD) (allT ws) k k0 (allT_ok h)
  rw [allT_runs] at q
  have f : sFor [2, 3, 4] (.tp [(.nm 2), (.nm 3), (.nm 4)]) (iS (eFn Fall_runs [(eVar 0)])) baddress_of_1 [some (wsD ws), some (.int k), none, none, none] S = _ := (forS_lst (xs := (allT ws).map trD) (by simp only [goS, hr]; rfl)).trans q
  have k0' : k ≥ 0 := k0
  rw [hv] at f
  simp only [Faddress_of, runD, baddress_of, go0, goS, geD_i, k0, k0', decide_true, f]
  exact fin_same rfl
theorem meet_none {ws : List Wk} (h : WsOk ws) (hd : ws.flatten.Pairwise DJ) : meetT shR (allT ws) = none := by
  unfold meetT
  rw [List.findSome?_eq_none_iff]
  intro k hk
  rw [List.findSome?_eq_none_iff]
  intro i hi
  have hk := List.mem_range.mp hk
  have hi := List.mem_range.mp hi
  have hk' : k + 1 + i < (allT ws).length := by omega
  rw [← allT_runs] at hd
  have hd := List.pairwise_iff_getElem.mp (List.pairwise_map.mp hd) k (k + 1 + i) hk hk' (by omega)
  have e1' : (allT ws)[k]?.getD t0 = (allT ws)[k] := by rw [List.getElem?_eq_getElem hk]; rfl
  have e2' : (allT ws)[k + 1 + i]?.getD t0 = (allT ws)[k + 1 + i] := by rw [List.getElem?_eq_getElem hk']; rfl
  unfold pairT
  rw [e1', e2', (sh_none (allT_ok h _ (List.getElem_mem hk)) (allT_ok h _ (List.getElem_mem hk'))).mpr hd]
  rfl
mutual
theorem py_refl : ∀ d : D, d.py.canLay0 = true → PyData.eqv d.py d.py = true
  | .non, _ => by simp [D.py, PyData.eqv]
  | .bl b, _ => by cases b <;> decide
  | .int i, _ => by simp [D.py, PyData.eqv]
  | .str x, _ => by simp [D.py, PyData.eqv]
  | .tup xs, h => by
    show PyData.eqvAll (pys xs) (pys xs) = true
    exact pys_refl xs h
  | .tpi xs, h => by
    show PyData.eqvAll (pys xs) (pys xs) = true
    exact pys_refl xs h
  | .lst xs, h => by
    show PyData.eqvAll (pys xs) (pys xs) = true
    exact pys_refl xs h
  | .fls xs, h => by
    show PyData.eqvAll (pys xs) (pys xs) = true
    exact pys_refl xs h
  | .dct _, h => absurd h (by simp [D.py, PyData.canLay0])
  | .ref _, h => absurd h (by simp [D.py, PyData.canLay0])
theorem pys_refl : ∀ xs : List D, PyData.canLayAll0 (pys xs) = true → PyData.eqvAll (pys xs) (pys xs) = true
  | [], _ => by simp [pys, PyData.eqvAll]
  | x :: xs, h => by
    have h' : x.py.canLay0 = true ∧ PyData.canLayAll0 (pys xs) = true := by simpa [pys, PyData.canLayAll0] using h
    show PyData.eqvAll (x.py :: pys xs) (x.py :: pys xs) = true
    simp only [PyData.eqvAll, py_refl x h'.1, pys_refl xs h'.2, Bool.and_self]
end
theorem eqD_refl {n : Nat} {d : D} (h : Ly n d) (hn : n ≤ 64) (neg : Bool) (S : Sto) : eqD neg d d S = .ok (.bl (!neg)) S := by
  have h3 : Pu.eqB S d d = true := by
    unfold Pu.eqB
    rw [h.flat]
    exact py_refl d h.lay
  unfold eqD
  rw [if_pos ⟨h.shp hn S, h.shp hn S⟩, h3]
  cases neg <;> rfl
structure OfAt (S : Sto) (o a b c : Nat) (st : Ofc) : Prop where
  h0 : S[o]? = some (ofO st a b c)
  h1 : S[a]? = some (.lst (st.held.map amD))
  h2 : S[b]? = some (.lst (st.astray.map amD))
  h3 : S[c]? = some (.lst (st.unread.map unD))
  nd : [o, a, b, c].Nodup
/-- bounds -/
structure OfOk (n : Nat) (st : Ofc) : Prop where
  ws : WsOk st.ws
  dj : st.ws.flatten.Pairwise DJ
  ol : st.os.length ≤ n
  hl : st.hand.length ≤ n
  kl : st.held.length ≤ n
  al : st.astray.length ≤ n
  ul : st.unread.length ≤ n
  bl : st.bundled.length ≤ n
  tx : ∀ r ∈ st.unread, (PyData.str r.2.1).canLay0 = true
theorem amD_gnd (r : Ad × Int) : (amD r).gnd = true := rfl
theorem unD_gnd (r : Int × Str × Int) : (unD r).gnd = true := rfl
theorem osD_gnd (os : List Or) : (osD os).gnd = true := by
  show gnds (os.map orD) = true
  exact gnds_map orD_gnd os
theorem rws_gnd (l : List (Int × Int)) : (tpD rowD l).gnd = true := rpRow.tp.gnd l
theorem ams_gnd (l : List (Ad × Int)) : (D.tup (l.map amD)).gnd = true := gnds_map amD_gnd l
theorem uns_gnd (l : List (Int × Str × Int)) : (D.tup (l.map unD)).gnd = true := gnds_map unD_gnd l
theorem rowsLy (l : List (Int × Int)) : Ly 2 (tpD rowD l) := ⟨rpRow.tp.lay l, rpRow.tp.dep l, rpRow.tp.flat l⟩
theorem amLy (r : Ad × Int) : Ly 2 (amD r) := Ly.tup fun x hx => by
  simp only [List.mem_cons, List.not_mem_nil, or_false] at hx
  rcases hx with rfl | rfl
  · exact rowLy _
  · exact .int _ _
theorem amsLy (l : List (Ad × Int)) : Ly 3 (tpD amD l) := Ly.tup fun x hx => by
  obtain ⟨r, _, rfl⟩ := List.mem_map.mp hx
  exact amLy r
theorem unsLy (l : List (Int × Str × Int)) (h : ∀ r ∈ l, (PyData.str r.2.1).canLay0 = true) : Ly 2 (tpD unD l) := Ly.tup fun x hx => by
  obtain ⟨r, hr, rfl⟩ := List.mem_map.mp hx
  refine Ly.tup fun x hx => ?_
  simp only [List.mem_cons, List.not_mem_nil, or_false] at hx
  rcases hx with rfl | rfl | rfl
  · exact .int _ _
  · exact .str (h r hr) _
  · exact .int _ _
theorem orLy (x : Or) : Ly 2 (orD x) := by
  obtain ⟨a, o, f, l⟩ := x
  cases o with
  | none =>
    refine Ly.tup fun x hx => ?_
    simp only [List.mem_cons, List.not_mem_nil, or_false] at hx
    rcases hx with rfl | rfl | rfl | rfl
    · exact .str sl_hold _
    · exact rowLy _
    · exact .int _ _
    · exact .int _ _
  | some b =>
    refine Ly.tup fun x hx => ?_
    simp only [List.mem_cons, List.not_mem_nil, or_false] at hx
    rcases hx with rfl | rfl | rfl | rfl | rfl
    · exact .str sl_fwd _
    · exact rowLy _
    · exact rowLy _
    · exact .int _ _
    · exact .int _ _
theorem osLy (os : List Or) : Ly 3 (osD os) := Ly.tup fun x hx => by
  obtain ⟨r, _, rfl⟩ := List.mem_map.mp hx
  exact orLy r
def totR (l : List (Int × Int)) : Int := (l.map (·.2)).sum
def totA (l : List (Ad × Int)) : Int := (l.map (·.2)).sum
def totU (l : List (Int × Str × Int)) : Int := (l.map (·.2.2)).sum
theorem letters_is (S : Sto) (rs : List (Int × Int)) (hl : rs.length < 1000000) : Fletters_in [tpD rowD rs] S = .ok (.int (totR rs)) S := by
  have l : nLc [1, 2] (.tp [.nm 1, .nm 2]) (iS (eVar 0)) tYesD (eVar 2) [some (tpD rowD rs), none, none] S = .ok (.lst ((rs.map (·.2)).map D.int)) S := by
    refine nLcS_tup (xs := rs.map rowD) rfl (by rw [List.length_map]; omega) ?_
    rw [List.map_map]
    exact lc_all rowD _ rs fun r hr => ⟨[some (tpD rowD rs), some (.int r.1), some (.int r.2)], rfl, rfl⟩
  simp only [Fletters_in, runD, bletters_in, go0, goS, l, intsD_map]
  exact fin_same rfl
theorem many_ref {α : Type} (f : α → D) (g : α → Int) (hf : ∀ x S, ixD (f x) (.int (-1)) S = .ok (.int (g x)) S) {S : Sto} {k : Nat} (l : List α) (h : S[k]? = some (.lst (l.map f))) (hl : l.length < 1000000) : Fmany_of [.ref k] S = .ok (.int (l.map g).sum) S := by
  have q : nLc [1] (.nm 1) (iS (eVar 0)) tYesD (e2 ixD (eVar 1) (e1 negD (eC (.int 1)))) [some (.ref k), none] S = .ok (.lst ((l.map g).map D.int)) S := by
    refine nLcS_ref (xs := l.map f) rfl h (by rw [List.length_map]; omega) ?_
    rw [List.map_map]
    exact lc_st f _ h l fun r hr => ⟨[some (.ref k), some (f r)], rfl, by simp only [goS, negD_int, hf, Function.comp]⟩
  simp only [Fmany_of, runD, bmany_of, go0, goS, q, intsD_map]
  exact fin_same rfl
def cntL (st : Ofc) : List Int := [totR st.hand, totA st.held, totA st.astray, totU st.unread, totR st.bundled, st.gone]
section
variable {S : Sto} {o a b c n : Nat} {st : Ofc}
theorem o_day (h : OfAt S o a b c st) : FOffice_day [.ref o] S = .ok (.int st.day) S := by
  simp only [FOffice_day, runD, bOffice_day, go0, goS, of_today h.h0]
  exact fin_same rfl
theorem o_orders (h : OfAt S o a b c st) : FOffice_orders [.ref o] S = .ok (osD st.os) S := by
  simp only [FOffice_orders, runD, bOffice_orders, go0, goS, of_in_force h.h0]
  exact fin_same (osD_gnd _)
theorem o_hand (h : OfAt S o a b c st) : FOffice_hand [.ref o] S = .ok (tpD rowD st.hand) S := by
  simp only [FOffice_hand, runD, bOffice_hand, go0, goS, of_loose h.h0]
  exact fin_same (rws_gnd _)
theorem o_bundled (h : OfAt S o a b c st) : FOffice_bundled [.ref o] S = .ok (tpD rowD st.bundled) S := by
  simp only [FOffice_bundled, runD, bOffice_bundled, go0, goS, of_sorted_on h.h0]
  exact fin_same (rws_gnd _)
theorem o_held (h : OfAt S o a b c st) : FOffice_held [.ref o] S = .ok (tpD amD st.held) S := by
  simp only [FOffice_held, runD, bOffice_held, go0, goS, of_kept h.h0, tupD_ref h.h1]
  exact fin_same (ams_gnd _)
theorem o_astray (h : OfAt S o a b c st) : FOffice_astray [.ref o] S = .ok (tpD amD st.astray) S := by
  simp only [FOffice_astray, runD, bOffice_astray, go0, goS, of_strays h.h0, tupD_ref h.h2]
  exact fin_same (ams_gnd _)
theorem o_unreadable (h : OfAt S o a b c st) : FOffice_unreadable [.ref o] S = .ok (tpD unD st.unread) S := by
  simp only [FOffice_unreadable, runD, bOffice_unreadable, go0, goS, of_unread h.h0, tupD_ref h.h3]
  exact fin_same (uns_gnd _)
theorem o_counts (h : OfAt S o a b c st) (k : OfOk n st) (hn : n < 1000000) : FOffice_counts [.ref o] S = .ok (.tup (((cntL st).sum :: cntL st).map D.int)) S := by
  have l1 := letters_is S st.hand (by have := k.hl; omega)
  have l2 := letters_is S st.bundled (by have := k.bl; omega)
  have m1 := many_ref amD (·.2) (fun x S => rfl) st.held h.h1 (by have := k.kl; omega)
  have m2 := many_ref amD (·.2) (fun x S => rfl) st.astray h.h2 (by have := k.al; omega)
  have m3 := many_ref unD (·.2.2) (fun x S => rfl) st.unread h.h3 (by have := k.ul; omega)
  have a1 : addD (.lst [.int (totR st.hand), .int (totA st.held), .int (totA st.astray), .int (totU st.unread)]) (.lst [.int (totR st.bundled), .int st.gone]) S = .ok (.lst ((cntL st).map D.int)) S := addL (by show 4 + 2 < 1000000; decide)
  have a2 : addD (.lst [.int (cntL st).sum]) (.lst ((cntL st).map D.int)) S = .ok (.lst (((cntL st).sum :: cntL st).map D.int)) S := addL (by show 1 + 6 < 1000000; decide)
  have m1' : Fmany_of [.ref a] S = .ok (.int (totA st.held)) S := m1
  have m2' : Fmany_of [.ref b] S = .ok (.int (totA st.astray)) S := m2
  have m3' : Fmany_of [.ref c] S = .ok (.int (totU st.unread)) S := m3
  simp only [FOffice_counts, runD, bOffice_counts, go0, goS, of_loose h.h0, of_kept h.h0, of_strays h.h0, of_unread h.h0, of_sorted_on h.h0, of_left h.h0, l1, l2, m1', m2', m3', ap_nLst, a1, intsD_map, a2, tupD_lst]
  exact fin_same (gnds_ints _)

theorem lc_lst {α : Type} (f : α → D) (g : α → Int) (hf : ∀ x S, ixD (f x) (.int (-1)) S = .ok (.int (g x)) S) (l : List α) (hl : l.length < 1000000) (x0 x1 x2 : Option D) (F : Ev D) (hF : F [x0, x1, x2, none] S = .ok (.tup (l.map f)) S) :
    nLc [3] (.nm 3) (iS F) tYesD (e2 ixD (eVar 3) (e1 negD (eC (.int 1)))) [x0, x1, x2, none] S = .ok (.lst ((l.map g).map D.int)) S := by
  refine nLcS_tup (xs := l.map f) hF (by rw [List.length_map]; omega) ?_
  rw [List.map_map]
  exact lc_all f _ l fun r hr => ⟨[x0, x1, x2, some (f r)], rfl, by simp only [goS, negD_int, hf, Function.comp]⟩
theorem lc_counts {X : D} (hX : dcOf S X = some (stF st)) (hg : X.bel S.length = true) (hd : ∀ T, dcOf (S ++ [.lst T]) X = some (stF st)) (k : OfOk n st) (hn : n < 1000000) : F_law_counts [X] S = .ok (.tup (((cntL st).sum :: cntL st).map D.int)) S := by
  have at0 : ∀ L : List D, (S ++ [DO.lst L])[S.length]? = some (.lst L) := fun L => last_at
  have one : ∀ {α : Type} (f : α → D) (g : α → Int) (hf : ∀ x S, ixD (f x) (.int (-1)) S = .ok (.int (g x)) S) (l : List α) (hl : l.length < 1000000) (w : Str) (acc : List Int), acc.length < 100 → ixD X (.str w) (S ++ [.lst (acc.map D.int)]) = .ok (.tup (l.map f)) (S ++ [.lst (acc.map D.int)]) →
      turn [2] (.nm 2) b_law_counts_1 (.str w) [some X, some (.ref S.length), none, none] (S ++ [.lst (acc.map D.int)]) = .next [some X, some (.ref S.length), none, none] (S ++ [.lst ((acc ++ [(l.map g).sum]).map D.int)]) := by
    intro α f g hf l hl w acc ha hw
    have q := lc_lst (S := S ++ [.lst (acc.map D.int)]) f g hf l hl (some X) (some (.ref S.length)) (some (.str w)) (e2 ixD (eVar 0) (eVar 2)) (by simp only [goS, hw])
    have ap : appD (.ref S.length) [.int (l.map g).sum] (S ++ [.lst (acc.map D.int)]) = .ok .non (S ++ [.lst ((acc ++ [(l.map g).sum]).map D.int)]) := by
      rw [appD_ref (at0 _) (Pu.sz (by rw [List.length_map]; omega)), set_last, List.map_append]
      rfl
    simp only [turn, goS, b_law_counts_1, isT_ref (at0 _), if_true, q, intsD_map, ap]
  have t1 := one rowD (·.2) (fun x S => rfl) st.hand (by have := k.hl; omega) "hand" [] (by simp) (sd_hand (hd _))
  have t2 := one amD (·.2) (fun x S => rfl) st.held (by have := k.kl; omega) "held" [totR st.hand] (by simp) (sd_held (hd _))
  have t3 := one amD (·.2) (fun x S => rfl) st.astray (by have := k.al; omega) "astray" [totR st.hand, totA st.held] (by simp) (sd_astray (hd _))
  have t4 := one unD (·.2.2) (fun x S => rfl) st.unread (by have := k.ul; omega) "unread" [totR st.hand, totA st.held, totA st.astray] (by simp) (sd_unread (hd _))
  have t5 := one rowD (·.2) (fun x S => rfl) st.bundled (by have := k.bl; omega) "bundled" [totR st.hand, totA st.held, totA st.astray, totU st.unread] (by simp) (sd_bundled (hd _))
  have lp : sFor [2] (.nm 2) (iS (eTup [(eC (.str "hand")), (eC (.str "held")), (eC (.str "astray")), (eC (.str "unread")), (eC (.str "bundled"))])) b_law_counts_1 [some X, some (.ref S.length), none, none] (S ++ [.lst []]) = .next [some X, some (.ref S.length), none, none] (S ++ [.lst ([totR st.hand, totA st.held, totA st.astray, totU st.unread, totR st.bundled].map D.int)]) := by
    rw [forS_tup (xs := [.str "hand", .str "held", .str "astray", .str "unread", .str "bundled"]) rfl]
    rw [forD_cons (src := .tmp _) trivial, show S ++ [DO.lst []] = S ++ [DO.lst (([] : List Int).map D.int)] from rfl, t1]
    simp only
    rw [forD_cons (src := .tmp _) trivial]
    have t2' := t2
    simp only [totR] at t2' t3 t4 t5 ⊢
    rw [List.nil_append, t2']
    simp only
    rw [forD_cons (src := .tmp _) trivial]
    simp only [totA] at t3 t4 t5 ⊢
    rw [List.cons_append, List.nil_append, t3]
    simp only
    rw [forD_cons (src := .tmp _) trivial, List.cons_append, List.cons_append, List.nil_append, t4]
    simp only
    simp only [totU] at t5 ⊢
    rw [forD_cons (src := .tmp _) trivial, List.cons_append, List.cons_append, List.cons_append, List.nil_append, t5]
    simp only
    exact forD_nil trivial
  have gn := sd_gone (st := st) (hd ([totR st.hand, totA st.held, totA st.astray, totU st.unread, totR st.bundled].map D.int))
  have ap : appD (.ref S.length) [.int st.gone] (S ++ [.lst ([totR st.hand, totA st.held, totA st.astray, totU st.unread, totR st.bundled].map D.int)]) = .ok .non (S ++ [.lst ((cntL st).map D.int)]) := by
    rw [appD_ref (at0 _) (Pu.sz (by show 5 < 1048576; decide)), set_last]
    rfl
  have sm : intsD (fun ns => .int ns.sum) [.ref S.length] (S ++ [.lst ((cntL st).map D.int)]) = .ok (.int (cntL st).sum) (S ++ [.lst ((cntL st).map D.int)]) := by
    have e : intsL ((cntL st).map D.int) = some (cntL st) := intsL_map _
    simp only [intsD, lsOf_ref (at0 _), Option.bind_some, e]
  have ad : addD (.lst [.int (cntL st).sum]) (.ref S.length) (S ++ [.lst ((cntL st).map D.int)]) = .ok (.lst (((cntL st).sum :: cntL st).map D.int)) (S ++ [.lst ((cntL st).map D.int)]) := by
    have e : addD (.lst [.int (cntL st).sum]) (.ref S.length) (S ++ [.lst ((cntL st).map D.int)]) = catL (some [.int (cntL st).sum]) (lvOf (S ++ [.lst ((cntL st).map D.int)]) (.ref S.length)) (S ++ [.lst ((cntL st).map D.int)]) := rfl
    rw [e]
    unfold catL lvOf
    simp only [at0]
    rw [if_pos (Nat.le_of_lt (Pu.sz (by show 1 + 6 < 1048576; decide)))]
    rfl
  simp only [F_law_counts, runD, b_law_counts, go0, goS, ap_nLst, lp, isT_ref (at0 _), if_true, gn, ap, sm, ad, tupD_lst]
  exact fin_app (gnds_ints _)
theorem lc_shows {X : D} (h : OfAt S o a b c st) (hX : dcOf S X = some (stF st)) (hg : X.bel S.length = true) (hd : ∀ T, dcOf (S ++ [.lst T]) X = some (stF st)) (k : OfOk n st) (hn : n < 1000000) : F_law_shows [.ref o, X] S = .ok (.bl true) S := by
  have lc := lc_counts hX hg hd k hn
  have oc := o_counts h k hn
  have ly : Ly 4 (.tup [.int st.day, osD st.os, tpD rowD st.hand, tpD amD st.held, tpD amD st.astray, tpD unD st.unread]) := Ly.tup fun x hx => by
    simp only [List.mem_cons, List.not_mem_nil, or_false] at hx
    rcases hx with rfl | rfl | rfl | rfl | rfl | rfl
    · exact .int _ _
    · exact osLy _
    · exact (rowsLy _).up (by decide)
    · exact amsLy _
    · exact amsLy _
    · exact (unsLy _ k.tx).up (by decide)
  have e1 := eqD_refl ly (by decide) false S
  have e2' := eqD_refl (rowsLy st.bundled) (by decide) false S
  have e3 := eqD_refl (d := .tup (((cntL st).sum :: cntL st).map D.int)) (n := 1) (Ly.tup fun x hx => by
    obtain ⟨i, _, rfl⟩ := List.mem_map.mp hx
    exact .int _ _) (by decide) false S
  simp only [F_law_shows, runD, b_law_shows, go0, goS, ap_Meth, om_day h.h0, om_orders h.h0, om_hand h.h0, om_held h.h0, om_astray h.h0, om_unreadable h.h0, om_bundled h.h0, om_counts h.h0, if_true, o_day h, o_orders h, o_hand h, o_held h, o_astray h, o_unreadable h, o_bundled h, oc, sd_day hX, sd_orders hX, sd_hand hX, sd_held hX, sd_astray hX, sd_unread hX, sd_bundled hX, lc, e1, e2', e3, Bool.not_false]
  exact fin_same rfl
end
def lowW (ws : List Wk) (i : Nat) : Int := ((ws.map cnW).take i).sum
def bunR (ws : List Wk) (bd : List (Int × Int)) (i : Nat) : List (Int × Int) := bd.filter fun r => decide (lowW ws i ≤ r.1 ∧ r.1 < lowW ws i + (ws.map cnW)[i]?.getD 0)
def adW (ws : List Wk) (k : Int) : Ad := (adL ws.flatten k).getD (0, 0)
def bunW (ws : List Wk) (bd : List (Int × Int)) (i : Nat) : List (Ad × Int) := (bunR ws bd i).map fun r => (adW ws r.1, r.2)
theorem o_bundle {S : Sto} {o a b c n : Nat} {st : Ofc} (h : OfAt S o a b c st) (k : OfOk n st) (hn : n < 1000000) (hr : ∀ r ∈ st.bundled, 0 ≤ r.1 ∧ (adL st.ws.flatten r.1).isSome = true) (i : Nat) (hi : i < st.ws.length) : FOffice_bundle [.ref o, .int (i : Nat)] S = .ok (tpD amD (bunW st.ws st.bundled i)) S := by
  have sp := stops_is st.ws k.ws S
  have ln : lenD [cnsD st.ws] S = .ok (.int (st.ws.length : Nat)) S := by rw [lenD_tup, List.length_map, List.length_map]
  have sl : slD (cnsD st.ws) none (some ((i : Nat) : Int)) S = .ok (.tup (((st.ws.map cnW).take i).map D.int)) S := by
    rw [slD_tup, cut_to, List.map_take]
  have ix : ixD (cnsD st.ws) (.int (i : Nat)) S = .ok (.int ((st.ws.map cnW)[i]?.getD 0)) S := by
    rw [ixD_tup, atI_cast, List.getElem?_map]
    simp [hi]
  have h0 : (0 : Int) ≤ (i : Nat) := by omega
  have h1 : ((i : Nat) : Int) < (st.ws.length : Nat) := by omega
  have sm : smB [.tup (((st.ws.map cnW).take i).map D.int)] S = .ok (.int (lowW st.ws i)) S := smB_tup
  let E : En := [some (.ref o), some (.int (i : Nat)), some (cnsD st.ws), some (.int (lowW st.ws i)), none, none, none, none]
  have l1 : nLc [5] (.nm 5) (iS (e1 (fldD "Office" "sorted_on") (eVar 0))) (eTB (eCh leD ltD (eVar 3) (e2 ixD (eVar 5) (eC (.int 0))) (e2 addD (eVar 3) (e2 ixD (eVar 2) (eVar 1))))) (eVar 5) E S = .ok (.lst ((bunR st.ws st.bundled i).map rowD)) S := by
    refine nLcS_tup (xs := st.bundled.map rowD) (by simp only [E, goS, of_sorted_on h.h0]; rfl) (by rw [List.length_map]; have := k.bl; omega) ?_
    refine lc_map (tg := .nm 5) (e := wipeE E [5]) rowD (fun r => decide (lowW st.ws i ≤ r.1 ∧ r.1 < lowW st.ws i + (st.ws.map cnW)[i]?.getD 0)) rowD st.bundled fun r hr => ⟨[some (.ref o), some (.int (i : Nat)), some (cnsD st.ws), some (.int (lowW st.ws i)), none, some (rowD r), none, none], rfl, ?_, fun _ => rfl⟩
    have j0 : ∀ S, ixD (rowD r) (.int 0) S = .ok (.int r.1) S := fun S => rfl
    simp only [goS, j0, leD_i, ix, addD_int, ltD_i]
    by_cases c0 : lowW st.ws i ≤ r.1
    · simp only [c0, decide_true, if_true, goS, ltD_i, true_and]
    · simp only [c0, decide_false, Bool.false_eq_true, if_false, goS, false_and]
  have hb : (bunR st.ws st.bundled i).length ≤ st.bundled.length := List.length_filter_le _ _
  have l2 : nLc [6, 7] (.tp [.nm 6, .nm 7]) (iS (eVar 4)) tYesD (eTup [(eFn Faddress_of [(e1 (fldD "Office" "walks") (eVar 0)), (eVar 6)]), (eVar 7)]) [some (.ref o), some (.int (i : Nat)), some (cnsD st.ws), some (.int (lowW st.ws i)), some (.lst ((bunR st.ws st.bundled i).map rowD)), none, none, none] S = .ok (.lst ((bunW st.ws st.bundled i).map amD)) S := by
    refine nLcS_lst (xs := (bunR st.ws st.bundled i).map rowD) rfl (by rw [List.length_map]; have := k.bl; omega) ?_
    unfold bunW
    rw [List.map_map]
    refine lc_all rowD _ _ fun r hm => ⟨[some (.ref o), some (.int (i : Nat)), some (cnsD st.ws), some (.int (lowW st.ws i)), some (.lst ((bunR st.ws st.bundled i).map rowD)), none, some (.int r.1), some (.int r.2)], rfl, ?_⟩
    obtain ⟨r0, rv⟩ := hr r (List.mem_filter.mp hm).1
    obtain ⟨v, hv⟩ := Option.isSome_iff_exists.mp rv
    have ad := addr_yes st.ws k.ws r.1 r0 hv S
    have ew : adW st.ws r.1 = v := by
      unfold adW
      rw [hv]
      rfl
    simp only [goS, of_walks h.h0, ad, Function.comp, ew]
    rfl
  simp only [E] at l1
  simp only [FOffice_bundle, runD, bOffice_bundle, go0, goS, of_walks h.h0, sp, ln, leD_i, ltD_i, h0, h1, decide_true, Bool.not_true, Bool.false_eq_true, if_true, if_false, sl, sm, l1, l2, tupD_lst]
  exact fin_same (ams_gnd _)
def st0 (ws : List Wk) : Ofc := ⟨ws, [], 0, [], [], [], [], 0, [], 0⟩
theorem os_new {A T : Sto} {F : List (Str × D)} {n : Str} {v : D} (h : F.length < 1000) : Pu.stF "Office" n (.ref A.length) v (A ++ (.ins "Office" F :: T)) = some (A ++ (.ins "Office" (putFD n v F) :: T)) := by
  rw [Pu.stF_ref (S := A ++ (DO.ins "Office" F :: T)) (gs := F) (by simp) h]
  simp
theorem init_is (A : Sto) (ws : List Wk) (hb : ∀ S, Fis_book [wsD ws] S = .ok (.bl true) S) : FOffice___init__ [.ref A.length, wsD ws] (A ++ [.ins "Office" []]) = .ok .non (A ++ [ofO (st0 ws) (A.length + 1) (A.length + 2) (A.length + 3), .lst [], .lst [], .lst []]) := by
  let F1 : List (Str × D) := [("walks", wsD ws)]
  let F2 : List (Str × D) := F1 ++ ([("today", .int 0)] : List (Str × D))
  let F3 : List (Str × D) := F2 ++ ([("in_force", .tup [])] : List (Str × D))
  let F4 : List (Str × D) := F3 ++ ([("loose", .tup [])] : List (Str × D))
  let F5 : List (Str × D) := F4 ++ ([("kept", .ref (A.length + 1))] : List (Str × D))
  let F6 : List (Str × D) := F5 ++ ([("strays", .ref (A.length + 2))] : List (Str × D))
  let F7 : List (Str × D) := F6 ++ ([("unread", .ref (A.length + 3))] : List (Str × D))
  let F8 : List (Str × D) := F7 ++ ([("numbered", .int 0)] : List (Str × D))
  let F9 : List (Str × D) := F8 ++ ([("sorted_on", .tup [])] : List (Str × D))
  have s1 := os_new (A := A) (T := []) (F := []) (n := "walks") (v := wsD ws) (by show 0 < 1000; decide)
  have s2 := os_new (A := A) (T := []) (F := F1) (n := "today") (v := .int 0) (by show 1 < 1000; decide)
  have s3 := os_new (A := A) (T := []) (F := F2) (n := "in_force") (v := .tup []) (by show 2 < 1000; decide)
  have s4 := os_new (A := A) (T := []) (F := F3) (n := "loose") (v := .tup []) (by show 3 < 1000; decide)
  have s5 := os_new (A := A) (T := [.lst []]) (F := F4) (n := "kept") (v := .ref (A.length + 1)) (by show 4 < 1000; decide)
  have s6 := os_new (A := A) (T := [.lst [], .lst []]) (F := F5) (n := "strays") (v := .ref (A.length + 2)) (by show 5 < 1000; decide)
  have s7 := os_new (A := A) (T := [.lst [], .lst [], .lst []]) (F := F6) (n := "unread") (v := .ref (A.length + 3)) (by show 6 < 1000; decide)
  have s8 := os_new (A := A) (T := [.lst [], .lst [], .lst []]) (F := F7) (n := "numbered") (v := .int 0) (by show 7 < 1000; decide)
  have s9 := os_new (A := A) (T := [.lst [], .lst [], .lst []]) (F := F8) (n := "sorted_on") (v := .tup []) (by show 8 < 1000; decide)
  have s10 := os_new (A := A) (T := [.lst [], .lst [], .lst []]) (F := F9) (n := "left") (v := .int 0) (by show 9 < 1000; decide)
  simp only [F1, F2, F3, F4, F5, F6, F7, F8, F9, List.cons_append, List.nil_append, putFD, ofString_inj, String.reduceEq, if_false] at s1 s2 s3 s4 s5 s6 s7 s8 s9 s10
  have l1 : ∀ F, (A ++ [DO.ins "Office" F]).length = A.length + 1 := fun F => by simp
  have l2 : ∀ F, (A ++ [DO.ins "Office" F, DO.lst []]).length = A.length + 2 := fun F => by simp
  have l3 : ∀ F, (A ++ [DO.ins "Office" F, DO.lst [], DO.lst []]).length = A.length + 3 := fun F => by simp
  have a1 : ∀ F, A ++ [DO.ins "Office" F] ++ [DO.lst []] = A ++ [DO.ins "Office" F, DO.lst []] := fun F => by simp
  have a2 : ∀ F, A ++ [DO.ins "Office" F, DO.lst []] ++ [DO.lst []] = A ++ [DO.ins "Office" F, DO.lst [], DO.lst []] := fun F => by simp
  have a3 : ∀ F, A ++ [DO.ins "Office" F, DO.lst [], DO.lst []] ++ [DO.lst []] = A ++ [DO.ins "Office" F, DO.lst [], DO.lst [], DO.lst []] := fun F => by simp
  simp only [FOffice___init__, runD, bOffice___init__, go0, goS, ap_Fl, hb, Bool.not_true, Bool.false_eq_true, if_false, s1, s2, s3, s4, ap_nLst, l1, a1, s5, l2, a2, s6, l3, a3, s7, s8, s9, s10]
  rfl
theorem made_is (A : Sto) (ws : List Wk) (hb : ∀ S, Fis_book [wsD ws] S = .ok (.bl true) S) (e : En) (f : Ev D) (hf : f e A = .ok (wsD ws) A) : eMake "Office" FOffice___init__ [f] e A = .ok (.ref A.length) (A ++ [ofO (st0 ws) (A.length + 1) (A.length + 2) (A.length + 3), .lst [], .lst [], .lst []]) := by
  rw [ap_Make]
  simp only [goS, hf, init_is A ws hb]
theorem made_at (A : Sto) (ws : List Wk) (R : Sto) : OfAt (A ++ ([ofO (st0 ws) (A.length + 1) (A.length + 2) (A.length + 3), .lst [], .lst [], .lst []] ++ R)) A.length (A.length + 1) (A.length + 2) (A.length + 3) (st0 ws) := by
  refine ⟨?_, ?_, ?_, ?_, ?_⟩
  · simp
  · rw [List.getElem?_append_right (by omega), show A.length + 1 - A.length = 1 by omega]
    rfl
  · rw [List.getElem?_append_right (by omega), show A.length + 2 - A.length = 2 by omega]
    rfl
  · rw [List.getElem?_append_right (by omega), show A.length + 3 - A.length = 3 by omega]
    rfl
  · simp
theorem st0_ok (ws : List Wk) (h : WsOk ws) (hd : ws.flatten.Pairwise DJ) : OfOk 0 (st0 ws) := ⟨h, hd, Nat.le_refl _, Nat.le_refl _, Nat.le_refl _, Nat.le_refl _, Nat.le_refl _, Nat.le_refl _, fun r hr => absurd hr List.not_mem_nil⟩
theorem right_book {ws : List Wk} (h : WsOk ws) (hd : ws.flatten.Pairwise DJ) (S : Sto) : Fis_book [wsD ws] S = .ok (.bl true) S := by
  rw [isbook_is ws h S, meet_none h hd]
  rfl
theorem cut_init {α : Type} (xs : List α) : cutL xs none (some (-1)) = xs.dropLast := by
  unfold cutL
  have h1 : HT.sIx xs.length 0 none = 0 := rfl
  have h2 : HT.sIx xs.length xs.length (some (-1)) = xs.length - 1 := by
    show (if (-1 : Int) < 0 then ((-1 : Int) + (xs.length : Int)).toNat else min (-1 : Int).toNat xs.length) = _
    rw [if_pos (by decide)]
    omega
  rw [h1, h2, List.drop_zero, Nat.sub_zero, List.dropLast_eq_take]
theorem rn_gd (r : Rn) : Gd (rnD r) := ⟨rfl, fun xs e x hx => by
  cases e
  simp only [List.mem_cons, List.not_mem_nil, or_false] at hx
  rcases hx with rfl | rfl | rfl | rfl <;> rfl⟩
theorem arewalks_B (ws : List Wk) (hl : ws.length < 1000) (hw : ∀ w ∈ ws, w.length < 1000) (S : Sto) : Fare_walks [wsD ws] S = .ok (.bl (ws.all fun w => w.all fun r => runB (rnD r))) S := by
  have l1 : nLc [1] (.nm 1) (iS (eVar 0)) tYesD (e1 (isD "tuple") (eVar 1)) [some (wsD ws), none, none] S = .ok (.lst ((ws.map fun _ => true).map D.bl)) S := by
    refine nLcS_tup (xs := ws.map wkD) rfl (by rw [List.length_map]; omega) ?_
    rw [List.map_map]
    exact lc_all (ys := ws.map wkD) wkD (D.bl ∘ fun _ => true) ws fun w _ => ⟨[some (wsD ws), some (wkD w), none], rfl, rfl⟩
  have l2 : ∀ w ∈ ws, nLc [2] (.nm 2) (iS (eVar 1)) tYesD (eFn Fis_run [(eVar 2)]) [some (wsD ws), some (wkD w), none] S = .ok (.lst ((w.map fun r => runB (rnD r)).map D.bl)) S := fun w hx => by
    have wl := hw w hx
    refine nLcS_tup (xs := w.map rnD) rfl (by rw [List.length_map]; omega) ?_
    rw [List.map_map]
    refine lc_all (ys := w.map rnD) rnD (D.bl ∘ fun r => runB (rnD r)) w fun r hr => ⟨[some (wsD ws), some (wkD w), some (rnD r)], rfl, ?_⟩
    simp only [goS, run_is (rnD r) (rn_gd r) S]
    rfl
  have l3 : nLc [1] (.nm 1) (iS (eVar 0)) tYesD (eCall (boolsD fun bs => bs.all id) [(eAno (nLc [2] (.nm 2) (iS (eVar 1)) tYesD (eFn Fis_run [(eVar 2)])))]) [some (wsD ws), none, none] S = .ok (.lst ((ws.map fun w => w.all fun r => runB (rnD r)).map D.bl)) S := by
    refine nLcS_tup (xs := ws.map wkD) rfl (by rw [List.length_map]; omega) ?_
    rw [List.map_map]
    refine lc_all (ys := ws.map wkD) wkD (D.bl ∘ fun w => w.all fun r => runB (rnD r)) ws fun w hx => ⟨[some (wsD ws), some (wkD w), none], rfl, ?_⟩
    simp only [goS, l2 w hx, boolsD_map, List.all_map]
    rfl
  have it : isD "tuple" (wsD ws) S = .ok (.bl true) S := rfl
  have b1 : boolsD (fun bs => bs.all id) [.lst ((ws.map fun _ => true).map D.bl)] S = .ok (.bl true) S := by rw [boolsD_map, all_true]
  have b3 : boolsD (fun bs => bs.all id) [.lst ((ws.map fun w => w.all fun r => runB (rnD r)).map D.bl)] S = .ok (.bl (ws.all fun w => w.all fun r => runB (rnD r))) S := by
    rw [boolsD_map, List.all_map]
    rfl
  simp only [Fare_walks, runD, bare_walks, go0, goS, it, Bool.not_true, l1, b1, Bool.false_eq_true, if_false, l3, b3]
  exact fin_same rfl
theorem meet_pw {L : List Tr} (h : meetT shR L = none) : L.Pairwise fun x y => shR x.2.2 y.2.2 = none := by
  rw [List.pairwise_iff_getElem]
  intro i j hi hj hij
  unfold meetT at h
  rw [List.findSome?_eq_none_iff] at h
  have h1 := h i (List.mem_range.mpr hi)
  rw [List.findSome?_eq_none_iff] at h1
  have h2 := h1 (j - (i + 1)) (List.mem_range.mpr (by omega))
  rw [show i + 1 + (j - (i + 1)) = j by omega, List.getElem?_eq_getElem hi, List.getElem?_eq_getElem hj] at h2
  unfold pairT at h2
  simpa using h2
def Rf (X : D) : Prop := X.gnd = true ∧ ∀ S, Fis_book [X] S = .ok (.bl false) S
theorem rf_bad {X : D} (hg : X.gnd = true) (h : ∀ S, Fare_walks [X] S = .ok (.bl false) S) : Rf X := ⟨hg, fun S => by
  simp only [Fis_book, runD, bis_book, go0, goS, h, Bool.false_eq_true, if_false]
  exact fin_same rfl⟩
theorem rf_lst (xs : List D) (hg : gnds xs = true) : Rf (.lst xs) := rf_bad hg fun S => by
  have it : isD "tuple" (.lst xs) S = .ok (.bl false) S := rfl
  simp only [Fare_walks, runD, bare_walks, go0, goS, it, Bool.not_false, if_true]
  exact fin_same rfl
theorem rf_non : Rf .non := rf_bad rfl fun S => by
  simp only [Fare_walks, runD, bare_walks, go0, goS, is_tup_non, Bool.not_false, if_true]
  exact fin_same rfl
theorem rf_int (i : Int) : Rf (.int i) := rf_bad rfl fun S => by
  simp only [Fare_walks, runD, bare_walks, go0, goS, is_tup_int, Bool.not_false, if_true]
  exact fin_same rfl
theorem rf_pair (ws : List Wk) : Rf (.tup [wsD ws, .bl true]) := rf_bad (by simp only [gnd_tup, gnds_cons, wsD_gnd, gnd_bl, gnds_nil, Bool.and_self]) fun S => by
  have l1 : nLc [1] (.nm 1) (iS (eVar 0)) tYesD (e1 (isD "tuple") (eVar 1)) [some (.tup [wsD ws, .bl true]), none, none] S = .ok (.lst ([true, false].map D.bl)) S := by
    refine nLcS_tup (xs := [wsD ws, .bl true]) rfl (by show 2 < 1048576; decide) ?_
    have := lc_all (tg := .nm 1) (f := e1 (isD "tuple") (eVar 1)) (e := wipeE [some (.tup [wsD ws, .bl true]), none, none] [1]) (S := S) (ys := [wsD ws, .bl true]) (fun p : D × Bool => p.1) (fun p => D.bl p.2) [(wsD ws, true), (.bl true, false)] fun p hp => ⟨[some (.tup [wsD ws, .bl true]), some p.1, none], rfl, by
      simp only [List.mem_cons, List.not_mem_nil, or_false] at hp
      rcases hp with rfl | rfl <;> rfl⟩
    exact this
  have it : isD "tuple" (.tup [wsD ws, .bl true]) S = .ok (.bl true) S := rfl
  have bd : boolsD (fun bs => bs.all id) [.lst ([true, false].map D.bl)] S = .ok (.bl false) S := boolsD_map
  simp only [Fare_walks, runD, bare_walks, go0, goS, it, Bool.not_true, l1, bd, Bool.not_false, if_true, Bool.false_eq_true, if_false]
  exact fin_same rfl
theorem rf_run {ws0 : List Wk} {w : Wk} {r : Rn} (h : WsOk (ws0 ++ [w])) (hr : runB (rnD r) = false) : Rf (wsD (ws0 ++ [w ++ [(30, 5, 9, 2), r]])) := by
  refine rf_bad (wsD_gnd _) fun S => ?_
  have h1 := h.1
  rw [List.length_append, List.length_singleton] at h1
  rw [arewalks_B _ (by rw [List.length_append, List.length_singleton]; omega) (fun v hv => by
    rcases List.mem_append.mp hv with hv | hv
    · have := (h.2 v (List.mem_append_left _ hv)).1
      omega
    · rw [List.mem_singleton.mp hv, List.length_append]
      have := (h.2 w (List.mem_append_right _ (List.mem_singleton.mpr rfl))).1
      show _ + 2 < 1000
      omega)]
  have : ((ws0 ++ [w ++ [(30, 5, 9, 2), r]]).all fun w => w.all fun r => runB (rnD r)) = false := by
    rw [List.all_append, List.all_cons, List.all_nil, List.all_append]
    simp [hr]
  rw [this]
theorem bad_meet {A B : Rn} (hA : RnOk A) (hB : RnOk B) (c : Int) (he : A.1 = B.1) (h1 : hasR A c) (h2 : hasR B c) : shR A B ≠ none := fun z => (sh_none hA hB).mp z he c ⟨h1, h2⟩
theorem rf_meet {ws0 : List Wk} {w : Wk} (h : WsOk (ws0 ++ [w])) (hl : w.length ≤ 4) : Rf (wsD (ws0 ++ [w ++ [(30, 5, 9, 2), (30, 7, 7, -2)]])) := by
  have okA : RnOk (30, 5, 9, 2) := ⟨by decide, by decide, by decide, by decide, by decide, by decide, by decide, 2, by decide⟩
  have okB : RnOk (30, 7, 7, -2) := ⟨by decide, by decide, by decide, by decide, by decide, by decide, by decide, 0, by decide⟩
  have hw : WsOk (ws0 ++ [w ++ [(30, 5, 9, 2), (30, 7, 7, -2)]]) := by
    refine ⟨by have := h.1; rw [List.length_append, List.length_singleton] at this ⊢; exact this, fun v hv => ?_⟩
    rcases List.mem_append.mp hv with hv | hv
    · exact h.2 v (List.mem_append_left _ hv)
    · rw [List.mem_singleton.mp hv]
      refine ⟨by rw [List.length_append]; show _ + 2 ≤ 20; omega, fun r hr => ?_⟩
      rcases List.mem_append.mp hr with hr | hr
      · exact (h.2 w (List.mem_append_right _ (List.mem_singleton.mpr rfl))).2 r hr
      · simp only [List.mem_cons, List.not_mem_nil, or_false] at hr
        rcases hr with rfl | rfl
        · exact okA
        · exact okB
  refine ⟨wsD_gnd _, fun S => ?_⟩
  rw [isbook_is _ hw S]
  have : (meetT shR (allT (ws0 ++ [w ++ [(30, 5, 9, 2), (30, 7, 7, -2)]]))).isNone = false := by
    rw [Bool.eq_false_iff]
    intro z
    rw [Option.isNone_iff_eq_none] at z
    have p := meet_pw z
    have p2 : ((allT (ws0 ++ [w ++ [((30, 5, 9, 2) : Rn), (30, 7, 7, -2)]])).map fun x : Tr => x.2.2).Pairwise (fun x y => shR x y = none) := List.pairwise_map.mpr p
    rw [allT_runs] at p2
    have e : (ws0 ++ [w ++ [((30, 5, 9, 2) : Rn), (30, 7, 7, -2)]]).flatten = (ws0.flatten ++ w) ++ [((30, 5, 9, 2) : Rn), (30, 7, 7, -2)] := by simp
    rw [e] at p2
    have p3 := (List.pairwise_append.mp p2).2.1
    exact bad_meet okA okB 7 rfl (by unfold hasR; decide) (by unfold hasR; decide) (List.rel_of_pairwise_cons p3 (List.mem_singleton.mpr rfl))
  rw [this]
theorem wrong_is {S : Sto} {b : Nat} (hb : b < S.length) {c m : Int} (hc : 0 ≤ c) (ws : List Wk) (h : WsOk ws) (hl : ∀ w ∈ ws, w.length ≤ 4) (h1 : 1 ≤ ws.length) : ∃ (X : D) (c' m' : Int), 0 ≤ c' ∧ Rf X ∧ F_law_wrong [.ref b, wsD ws] (Bg S b c m) = .ok X (Bg S b c' m') := by
  obtain ⟨ws0, w, rfl⟩ : ∃ ws0 w, ws = ws0 ++ [w] := by
    rcases List.eq_nil_or_concat ws with e | ⟨a, b, e⟩
    · rw [e] at h1
      exact absurd h1 (by decide)
    · exact ⟨a, b, by rw [e, List.concat_eq_append]⟩
  have hw4 := hl w (List.mem_append_right _ (List.mem_singleton.mpr rfl))
  obtain ⟨j, c1, m1, hj, hc1, q1⟩ := takeN (S := S) (k := b) (c := c) (m := m) (many := 9) hb hc (by decide) (by decide)
  have q1' : F_law_take [.ref b, .int 9] (Bg S b c m) = .ok (.int (j : Nat)) (Bg S b c1 m1) := q1
  have ix : ∀ T, ixD (wsD (ws0 ++ [w])) (.int (-1)) T = .ok (wkD w) T := fun T => by
    show opt (atI ((ws0 ++ [w]).map wkD) (-1)) T = _
    rw [atI_m1, List.map_append]
    simp
  let A : Rn := (30, 5, 9, 2)
  let W6 : List Rn := [(30, 8, 8, 1), (30, 7, 7, -2), (31, 1, 2, 1), (30, 20, 23, 3), (30, 20, 23, 2), (30, 0, 4, 1)]
  let W7 : List Rn := W6 ++ [(30, 9, 5, 2)]
  have a1 : ∀ T, addD (wkD w) (.tup [rnD A]) T = .ok (wkD (w ++ [A])) T := fun T => addT (f := rnD) (xs := w) (ys := [A]) (by rw [List.length_singleton]; omega)
  have lS : (Bg S b c1 m1).length = S.length := Bg_len
  have eN : ∀ L, Bg S b c1 m1 ++ [DO.lst L] = Bg (S ++ [.lst L]) b c1 m1 := fun L => Bg_app hb
  have at6 : (Bg (S ++ [DO.lst (W6.map rnD)]) b c1 m1)[S.length]? = some (.lst (W6.map rnD)) := Bg_last hb
  have at7 : (Bg (S ++ [DO.lst (W7.map rnD)]) b c1 m1)[S.length]? = some (.lst (W7.map rnD)) := Bg_last hb
  have ap : appD (.ref S.length) [rnD (30, 9, 5, 2)] (Bg (S ++ [DO.lst (W6.map rnD)]) b c1 m1) = .ok .non (Bg (S ++ [DO.lst (W7.map rnD)]) b c1 m1) := by
    rw [appD_ref at6 (Pu.sz (by decide)), Bg_setl hb]
    rfl
  have ist := isT_ref at6
  have sl : ∀ T, slD (wsD (ws0 ++ [w])) none (some (-1)) T = .ok (wsD ws0) T := fun T => by
    show slD (.tup ((ws0 ++ [w]).map wkD)) none (some (-1)) T = _
    rw [slD_tup, cut_init, List.map_append]
    simp [wsD, tpD]
  by_cases h7 : ((j : Nat) : Int) < 7
  · -- one run more
    let i : Nat := if j = 0 then 1 else j
    have hi : 1 ≤ i ∧ i < 7 := by
      show 1 ≤ (if j = 0 then 1 else j) ∧ (if j = 0 then 1 else j) < 7
      split <;> omega
    have ei : ∀ T, (if decide (((j : Nat) : Int) = 0) = true then (1 : Int) else 0) + 0 = (if decide (((j : Nat) : Int) = 0) = true then (1 : Int) else 0) := fun T => by omega
    have e1 : ((j : Nat) : Int) + (if decide (((j : Nat) : Int) = 0) = true then (1 : Int) else 0) = (i : Nat) := by
      show _ = (((if j = 0 then 1 else j) : Nat) : Int)
      by_cases h0 : j = 0
      · subst h0; rfl
      · rw [if_neg h0, if_neg (by rw [decide_eq_true_iff]; omega)]
        omega
    obtain ⟨r, hr⟩ : ∃ r, W7[i]? = some r := ⟨W7[i]'(by show i < 7; exact hi.2), List.getElem?_eq_getElem _⟩
    have ixr : ixD (.ref S.length) (.int (i : Nat)) (Bg (S ++ [DO.lst (W7.map rnD)]) b c1 m1) = .ok (rnD r) (Bg (S ++ [DO.lst (W7.map rnD)]) b c1 m1) := by
      rw [ixD_ref at7, atI_cast, List.getElem?_map, hr]
      rfl
    have a2 : ∀ T, addD (wkD (w ++ [A])) (.tup [rnD r]) T = .ok (wkD (w ++ [A] ++ [r])) T := fun T => addT (f := rnD) (xs := w ++ [A]) (ys := [r]) (by rw [List.length_append, List.length_singleton, List.length_singleton]; omega)
    have a3 : ∀ T, addD (wsD ws0) (.tup [wkD (w ++ [A] ++ [r])]) T = .ok (wsD (ws0 ++ [w ++ [A] ++ [r]])) T := fun T => addT (f := wkD) (xs := ws0) (ys := [w ++ [A] ++ [r]]) (by have := h.1; rw [List.length_append] at this; rw [List.length_singleton]; omega)
    refine ⟨wsD (ws0 ++ [w ++ [A] ++ [r]]), c1, m1, hc1, ?_, ?_⟩
    · rw [List.append_assoc]
      have : i = 1 ∨ i = 2 ∨ i = 3 ∨ i = 4 ∨ i = 5 ∨ i = 6 := by omega
      rcases this with e | e | e | e | e | e
      · rw [e] at hr; cases hr; exact rf_meet h hw4
      · rw [e] at hr; cases hr; exact rf_run h (by decide)
      · rw [e] at hr; cases hr; exact rf_run h (by decide)
      · rw [e] at hr; cases hr; exact rf_run h (by decide)
      · rw [e] at hr; cases hr; exact rf_run h (by decide)
      · rw [e] at hr; cases hr; exact rf_run h (by decide)
    · simp only [rnD, A, W6, W7, List.map_cons, List.map_nil, List.cons_append, List.nil_append] at a1 a2 a3 ap ist ixr at6 at7
      simp only [F_law_wrong, runD, b_law_wrong, go0, goS, negD_int, ix, a1, q1', ap_nLst, lS, eN, ist, if_true, ap, ltD_i, h7, decide_true, eqD_int, int1_bl, addD_int, e1, sl, ixr, a2, a3]
      rw [← Bg_app hb]
      exact fin_bg hb (wsD_gnd _)
  · -- no tuple of walks
    have e7 : (((j : Nat) : Int) - 7 = 0) ∨ (((j : Nat) : Int) - 7 = 1) := by omega
    have nl : ∀ (x0 : Option D) (e : En) T, nListOf (eVar 1) (x0 :: some (wsD (ws0 ++ [w])) :: e) T = .ok (.lst ((ws0 ++ [w]).map wkD)) T := fun x0 e T => by
      unfold nListOf
      simp only [goS]
      rfl
    obtain ⟨X, hX, eX⟩ : ∃ X, Rf X ∧ ∀ T, ixD (.lst [.lst ((ws0 ++ [w]).map wkD), .tup [wsD (ws0 ++ [w]), .bl true]]) (.int (((j : Nat) : Int) - 7)) T = .ok X T := by
      rcases e7 with e | e
      · rw [e]
        exact ⟨_, rf_lst _ (wsD_gnd (ws0 ++ [w])), fun T => rfl⟩
      · rw [e]
        exact ⟨_, rf_pair _, fun T => rfl⟩
    refine ⟨X, c1, m1, hc1, hX, ?_⟩
    simp only [rnD, A, W6, W7, List.map_cons, List.map_nil, List.cons_append, List.nil_append] at a1 ap ist at6 at7
    simp only [F_law_wrong, runD, b_law_wrong, go0, goS, negD_int, ix, a1, q1', ap_nLst, lS, eN, ist, if_true, ap, ltD_i, h7, decide_false, Bool.false_eq_true, if_false, nl, subD_i, eX]
    rw [← Bg_app hb]
    exact fin_bg hb hX.1
theorem no_book {X : D} (h : Rf X) (S : Sto) : F_law_no_book [X] S = .ok (.bl true) S := by
  have hi : ∀ (k : Nat) (T : Sto), FOffice___init__ [.ref k, X] T = .exc "NoBook" T := fun k T => by
    simp only [FOffice___init__, runD, bOffice___init__, go0, goS, h.2, Bool.not_false, if_true, ap_raise, seq_exc]
    rfl
  have hu : sExpr (eMake "Office" FOffice___init__ [(eVar 0)]) [some X, none] S = .exc "NoBook" [some X, none] (S ++ [.ins "Office" []]) := by
    rw [ap_Expr, ap_Make]
    simp only [goS, hi, bind_exc, stm_exc]
  have ht : sTry [("NoBook", true)] 1 (sExpr (eMake "Office" FOffice___init__ [(eVar 0)])) (fun _ => (sRet (eC (.bl true)))) [some X, none] S = .ret (.bl true) (S ++ [.ins "Office" []]) := try_got hu rfl rfl rfl
  simp only [F_law_no_book, runD, b_law_no_book, go0, goS, ht]
  exact fin_app rfl
theorem stF_gnd (st : Ofc) : (D.dct (stF st)).gnd = true := by
  show gndk (stF st) = true
  have h1 := ams_gnd st.held
  have h2 := ams_gnd st.astray
  have h3 := uns_gnd st.unread
  simp only [stF, gndk, wsD_gnd, osD_gnd, gnd_int, rws_gnd, Bool.and_true, Bool.true_and]
  rw [show tpD amD st.held = D.tup (st.held.map amD) from rfl, show tpD amD st.astray = D.tup (st.astray.map amD) from rfl, show tpD unD st.unread = D.tup (st.unread.map unD) from rfl, h1, h2, h3]
  rfl
theorem frz_dct {S : Sto} {kvs : List (Key × D)} (h : gndk kvs = true) : fin .frz S (.ref S.length) (S ++ [.dct kvs]) = .ok (.dct kvs) S := by
  have h1 : ∀ ys : List (Key × D), gndk ys = true → allSome (ys.map fun p => (frzV S.length (S ++ [.dct kvs]) 5 p.2).map fun y => (p.1, y)) = some ys := by
    intro ys
    induction ys with
    | nil => intro _; rfl
    | cons y ys ih =>
      intro hy
      obtain ⟨k, y⟩ := y
      have h' : y.gnd = true ∧ gndk ys = true := by simpa [gndk] using hy
      have e : frzV S.length (S ++ [.dct kvs]) 5 y = some y := by
        unfold frzV
        rw [if_pos (gnd_below _ y h'.1)]
      simp only [List.map_cons, e, Option.map_some, allSome, ih h'.2]
  simp only [fin]
  rw [if_pos .app, List.take_left]
  unfold frzV
  rw [if_neg (by simp [D.bel])]
  simp only [last_at, h1 kvs h, Option.map_some]
  rfl
theorem opened_is (ws : List Wk) (S : Sto) : F_law_opened [wsD ws] S = .ok (.dct (stF (st0 ws))) S := by
  have nd : nDctS ["book", "orders", "day", "hand", "held", "astray", "unread", "many"] [(eVar 0), (eTup []), (eC (.int 0)), (eTup []), (eTup []), (eTup []), (eTup []), (eC (.int 0))] [some (wsD ws), none] S = .ok (.dct [(.inr "book", wsD ws), (.inr "orders", .tup []), (.inr "day", .int 0), (.inr "hand", .tup []), (.inr "held", .tup []), (.inr "astray", .tup []), (.inr "unread", .tup []), (.inr "many", .int 0)]) S := by
    unfold nDctS
    simp only [goS]
    rfl
  let K8 : List (Key × D) := [(.inr "book", wsD ws), (.inr "orders", .tup []), (.inr "day", .int 0), (.inr "hand", .tup []), (.inr "held", .tup []), (.inr "astray", .tup []), (.inr "unread", .tup []), (.inr "many", .int 0)]
  have s1 : stD (.ref S.length) (.str "bundled") (.tup []) (S ++ [.dct K8]) = some (S ++ [.dct (K8 ++ [(.inr "bundled", .tup [])])]) := by
    rw [stD_key last_at (by show 8 < sizeLine; exact Pu.sz (by decide)), set_last]
    simp [K8, putD, ofString_inj]
  have s2 : stD (.ref S.length) (.str "gone") (.int 0) (S ++ [.dct (K8 ++ [(.inr "bundled", .tup [])])]) = some (S ++ [.dct (stF (st0 ws))]) := by
    rw [stD_key last_at (by show 9 < sizeLine; exact Pu.sz (by decide)), set_last]
    simp [K8, putD, ofString_inj, stF, st0]
    exact ⟨rfl, rfl, rfl, rfl, rfl⟩
  simp only [K8] at s1 s2
  simp only [F_law_opened, runD, b_law_opened, go0, goS, nd, s1, s2]
  exact frz_dct (stF_gnd _)
theorem bundle0 {S : Sto} {o a b c : Nat} {ws : List Wk} (h : OfAt S o a b c (st0 ws)) (k : OfOk 0 (st0 ws)) (i : Nat) (hi : i < ws.length) : FOffice_bundle [.ref o, .int (i : Nat)] S = .ok (.tup []) S := o_bundle h k (by decide) (fun r hr => absurd hr List.not_mem_nil) i hi
theorem turn_is (ns : List Int) (S : Sto) (k : Nat) (hk : k ≤ 1000) : ∃ S', turn [1, 2, 3, 4, 5] (.nm 1) blaw_2 (.int (k : Nat)) [some (.fls (ns.map D.int)), none, none, none, none, none] S = .next [some (.fls (ns.map D.int)), none, none, none, none, none] S' := by
  obtain ⟨c, m, hc, q1⟩ := bag ns k hk S
  have hS : S.length < (S ++ [DO.lst [.int c, .int m]]).length := by simp
  have eB : S ++ [DO.lst [.int c, .int m]] = Bg (S ++ [DO.lst [.int c, .int m]]) S.length c m := (Bg_of (by simp)).symm
  generalize S ++ [DO.lst [.int c, .int m]] = T at *
  rw [eB] at q1
  generalize S.length = b at *
  obtain ⟨ws, c1, m1, hc1, hw, l1, l3, l4, g, q2⟩ := obook (m := m) hS hc
  have hb := right_book hw g.2
  have km := st0_ok ws hw g.2
  have md := made_is (Bg T b c1 m1) ws hb [some (.fls (ns.map D.int)), some (.int (k : Nat)), some (.ref b), some (wsD ws), none, none] (eVar 3) rfl
  have lT : (Bg T b c1 m1).length = T.length := Bg_len
  rw [lT, Bg_app hS] at md
  have hU : ∀ c m, OfAt (Bg (T ++ [ofO (st0 ws) (T.length + 1) (T.length + 2) (T.length + 3), .lst [], .lst [], .lst []]) b c m) T.length (T.length + 1) (T.length + 2) (T.length + 3) (st0 ws) := fun c m => by
    have := made_at (Bg T b c m) ws []
    rw [List.append_nil, Bg_len, Bg_app hS] at this
    exact this
  have hSU : b < (T ++ [ofO (st0 ws) (T.length + 1) (T.length + 2) (T.length + 3), .lst [], .lst [], .lst []]).length := by rw [List.length_append]; omega
  generalize T ++ [ofO (st0 ws) (T.length + 1) (T.length + 2) (T.length + 3), .lst [], .lst [], .lst []] = U at *
  obtain ⟨X, c2, m2, hc2, hX, q3⟩ := wrong_is (m := m1) hSU hc1 ws hw l4 l1
  have sh : ∀ c m, F_law_shows [.ref T.length, .dct (stF (st0 ws))] (Bg U b c m) = .ok (.bl true) (Bg U b c m) := fun c m => lc_shows (hU c m) dcOf_dct (gnd_below _ _ (stF_gnd _)) (fun T => dcOf_dct) km (by decide)
  have op := opened_is ws
  have ln : ∀ S, lenD [wsD ws] S = .ok (.int (ws.length : Nat)) S := fun S => by show lenD [.tup (ws.map wkD)] S = _; rw [lenD_tup, List.length_map]
  let E : En := [some (.fls (ns.map D.int)), some (.int (k : Nat)), some (.ref b), some (wsD ws), some (.ref T.length), none]
  have lp : sFor [5] (.nm 5) (iR1 (eCall lenD [(eVar 3)])) blaw_1 E (Bg U b c1 m1) = .next E (Bg U b c1 m1) := by
    rw [forR1 (n := ws.length) (by simp only [E, goS, ln]) (by omega), rng_map]
    have := for_find (dead := [5]) (tg := .nm 5) (body := blaw_1) (e := E) (S := Bg U b c1 m1) (ys := (List.range ws.length).map fun i : Nat => D.int (i : Int)) (fun i : Nat => D.int (i : Int)) (fun _ => none) (List.range ws.length) fun i hi => by
      have b0 := bundle0 (hU c1 m1) km i (List.mem_range.mp hi)
      have ne : ∀ S, eqD true (.tup []) (.tup []) S = .ok (.bl false) S := fun S => eqD_refl (n := 1) (Ly.tup fun x hx => absurd hx List.not_mem_nil) (by decide) true S
      simp only [turn, goS, blaw_1, E, ap_Meth, om_bundle (hU c1 m1).h0, if_true, b0, ne, Bool.false_eq_true, if_false]
    have e0 : (List.range ws.length).findSome? (fun _ : Nat => (none : Option D)) = none := by rw [List.findSome?_eq_none_iff]; exact fun _ _ => rfl
    rw [e0] at this
    exact this
  simp only [E] at lp
  refine ⟨Bg U b c2 m2, ?_⟩
  simp only [turn, goS, blaw_2, q1, q2, md, op, sh, Bool.not_true, Bool.false_eq_true, if_false, lp, q3, no_book hX, no_book rf_non, no_book (rf_int 7)]
theorem math : ∀ ns : List Int, ns.length ≤ 63 → ∃ S, Flaw [.fls (ns.map D.int)] [] = .ok (.bl true) S := by
  intro ns hl
  have hm : ∃ m : Nat, m ≤ 5 ∧ (e2 addD (eC (.int 1)) (eCall (ii2D minI) [(eC (.int 3)), (eCall lenD [(eVar 0)])])) [some (.fls (ns.map D.int)), none, none, none, none, none] [] = .ok (.int (m : Nat)) [] := by
    have h1 : ii2D minI [.int 3, .int (ns.length : Nat)] [] = .ok (.int (minI 3 (ns.length : Nat))) [] := rfl
    refine ⟨(1 + minI 3 (ns.length : Nat)).toNat, ?_, ?_⟩
    · unfold minI; split <;> omega
    · simp only [goS, lenD_fls, List.length_map, h1, addD_int]
      rw [Int.toNat_of_nonneg (by unfold minI; split <;> omega)]
  obtain ⟨m, hm4, hm⟩ := hm
  obtain ⟨e', S', q, ee⟩ := for_inv0 (dead := [1, 2, 3, 4, 5]) (tg := .nm 1) (body := blaw_2) (e := [some (.fls (ns.map D.int)), none, none, none, none, none]) (S := []) (ys := (List.range m).map fun k : Nat => D.int (k : Int)) (xs := (List.range m).map fun k : Nat => D.int (k : Int)) (fun _ e _ => e = [some (.fls (ns.map D.int)), none, none, none, none, none]) rfl (fun n e S x hx ee => by
    subst ee
    rw [List.getElem?_map, Option.map_eq_some_iff] at hx
    obtain ⟨k, hk, rfl⟩ := hx
    have hk' : k < m := List.mem_range.mp (List.mem_of_getElem? hk)
    obtain ⟨S', q⟩ := turn_is ns S k (by omega)
    exact ⟨_, S', q, rfl⟩)
  subst ee
  refine ⟨S'.take 0, ?_⟩
  simp only [Flaw, runD, blaw, go0, goS]
  rw [forR1 (n := m) hm (by omega), rng_map, q]
  simp only [goS]
  exact fin_frz ⟨Nat.zero_le _, fun k o hk => absurd hk (by simp)⟩ rfl
end Lw
open PySem PySem.W PyProof.Rows
set_option maxRecDepth 100000 in
set_option maxHeartbeats 0 in
theorem PySem.Challenge.cw_walkframe_k48_offices_opened_holds : PySem.Challenge.rw_walkframe_k48_offices_opened.Holds := by
  w_on; o_law; k_head; (case hw => w_witness2)
  k_fill
  refine L2.walk_of (l := PySem.Challenge.rw_walkframe_k48_offices_opened) (n := 63) (k := 9) (x := "_law_script") (CX := fun w => L2N.CX PySem.Challenge.pw_walkframe_k48_offices_opened w) (sp := fun w => Pu.SpE _ 1 Lw.Flaw) rfl (by decide) rfl ⟨rfl, by decide, by decide⟩ (fun w h Y => PySem.W.kIn_of Y) ?F (fun w H a ns hl _ hs => Pu.law_sp Lw.math H a ns hl hs) (fun w H s e s' h => Pu.cx_no h)
  case F =>
    intro w mg fa h KX G hmg
    refine' Lw.all_ok KX G hmg ?og_Office ?op_Office ?od_Office ?oo_Office ?os_Office ?om_Office ?ok_Office ?on_Office_in_force ?on_Office_kept ?on_Office_left ?on_Office_loose ?on_Office_numbered ?on_Office_sorted_on ?on_Office_strays ?on_Office_today ?on_Office_unread ?on_Office_walks ?a0 ?l0 ?c0 ?k0 ?a1 ?l1 ?c1 ?k1 ?a2 ?l2 ?c2 ?k2 ?a3 ?l3 ?c3 ?k3 ?a4 ?l4 ?c4 ?k4 ?a5 ?l5 ?c5 ?k5 ?a6 ?l6 ?c6 ?k6 ?a7 ?l7 ?c7 ?k7 ?a8 ?l8 ?c8 ?k8 ?a9 ?l9 ?c9 ?k9 ?a10 ?l10 ?c10 ?k10 ?a11 ?l11 ?c11 ?k11 ?a12 ?l12 ?c12 ?k12 ?a13 ?l13 ?c13 ?k13 ?a14 ?l14 ?c14 ?k14 ?a15 ?l15 ?c15 ?k15 ?a16 ?l16 ?c16 ?k16 ?a17 ?i17 ?l17 ?c17 ?k17 ?a18 ?i18 ?l18 ?c18 ?k18 ?a19 ?i19 ?l19 ?c19 ?k19 ?a20 ?i20 ?l20 ?c20 ?k20 ?a21 ?i21 ?l21 ?c21 ?k21 ?a22 ?i22 ?l22 ?c22 ?k22 ?a23 ?i23 ?l23 ?c23 ?k23 ?a24 ?i24 ?l24 ?c24 ?k24 ?a25 ?i25 ?l25 ?c25 ?k25 ?a26 ?i26 ?l26 ?c26 ?k26 ?a27 ?l27 ?c27 ?k27 ?a28 ?l28 ?c28 ?k28 ?a29 ?l29 ?c29 ?k29 ?a30 ?l30 ?c30 ?k30 ?a31 ?l31 ?c31 ?k31 ?a32 ?l32 ?c32 ?k32 ?a33 ?l33 ?c33 ?k33 ?a34 ?l34 ?c34 ?k34 ?a35 ?l35 ?c35 ?k35 ?a36 ?l36 ?c36 ?k36 ?z_ValueError ?z_all ?z_bool ?z_enumerate ?z_int ?z_isinstance ?z_len ?z_list ?z_max ?z_min ?z_range ?z_sum ?z_tuple ?g_MOST_NUMBER ?g_STEPS ?m_STEPS ?g_STREETS ?yg_LetterError ?yg_NoBook ?yg_NoCarrier ?yg_NoOrder ?yg_NoPlan ?yg_NoStop ?ye_LetterError ?yk_LetterError ?yb_LetterError ?ye_NoBook ?yk_NoBook ?yb_NoBook ?ye_NoCarrier ?yk_NoCarrier ?yb_NoCarrier ?ye_NoStop ?yk_NoStop ?yb_NoStop ?yx0_NoBook ?yx1_NoBook ?yx2_NoBook ?yx3_NoBook ?ys_NoBook_LetterError ?yi_NoBook_NoBook ?yi_NoBook_NoOrder ?ywi_NoBook_NoOrder ?yi_NoBook_NoPlan ?ywi_NoBook_NoPlan ?yi_NoBook_NoStop ?ywi_NoBook_NoStop ?yv_NoBook ?yt_LetterError ?yd_LetterError ?yt_NoBook ?yd_NoBook ?yt_NoCarrier ?yd_NoCarrier ?yt_NoOrder ?yd_NoOrder ?yt_NoPlan ?yd_NoPlan ?yt_NoStop ?yd_NoStop ?yn ?yq
    (case og_Office => k_is)
    (case op_Office => k_is)
    (case od_Office => k_is)
    (case oo_Office => k_is)
    (case os_Office => k_is)
    (case om_Office => k_is)
    (case ok_Office => k_is)
    (case on_Office_in_force => k_is)
    (case on_Office_kept => k_is)
    (case on_Office_left => k_is)
    (case on_Office_loose => k_is)
    (case on_Office_numbered => k_is)
    (case on_Office_sorted_on => k_is)
    (case on_Office_strays => k_is)
    (case on_Office_today => k_is)
    (case on_Office_unread => k_is)
    (case on_Office_walks => k_is)
    (case a0 => k_is)
    (case l0 => k_is)
    (case c0 => k_is)
    (case k0 => k_is)
    (case a1 => k_is)
    (case l1 => k_is)
    (case c1 => k_is)
    (case k1 => k_is)
    (case a2 => k_is)
    (case l2 => k_is)
    (case c2 => k_is)
    (case k2 => k_is)
    (case a3 => k_is)
    (case l3 => k_is)
    (case c3 => k_is)
    (case k3 => k_is)
    (case a4 => k_is)
    (case l4 => k_is)
    (case c4 => k_is)
    (case k4 => k_is)
    (case a5 => k_is)
    (case l5 => k_is)
    (case c5 => k_is)
    (case k5 => k_is)
    (case a6 => k_is)
    (case l6 => k_is)
    (case c6 => k_is)
    (case k6 => k_is)
    (case a7 => k_is)
    (case l7 => k_is)
    (case c7 => k_is)
    (case k7 => k_is)
    (case a8 => k_is)
    (case l8 => k_is)
    (case c8 => k_is)
    (case k8 => k_is)
    (case a9 => k_is)
    (case l9 => k_is)
    (case c9 => k_is)
    (case k9 => k_is)
    (case a10 => k_is)
    (case l10 => k_is)
    (case c10 => k_is)
    (case k10 => k_is)
    (case a11 => k_is)
    (case l11 => k_is)
    (case c11 => k_is)
    (case k11 => k_is)
    (case a12 => k_is)
    (case l12 => k_is)
    (case c12 => k_is)
    (case k12 => k_is)
    (case a13 => k_is)
    (case l13 => k_is)
    (case c13 => k_is)
    (case k13 => k_is)
    (case a14 => k_is)
    (case l14 => k_is)
    (case c14 => k_is)
    (case k14 => k_is)
    (case a15 => k_is)
    (case l15 => k_is)
    (case c15 => k_is)
    (case k15 => k_is)
    (case a16 => k_is)
    (case l16 => k_is)
    (case c16 => k_is)
    (case k16 => k_is)
    (case a17 => k_is)
    (case i17 => k_is)
    (case l17 => k_is)
    (case c17 => k_is)
    (case k17 => k_is)
    (case a18 => k_is)
    (case i18 => k_is)
    (case l18 => k_is)
    (case c18 => k_is)
    (case k18 => k_is)
    (case a19 => k_is)
    (case i19 => k_is)
    (case l19 => k_is)
    (case c19 => k_is)
    (case k19 => k_is)
    (case a20 => k_is)
    (case i20 => k_is)
    (case l20 => k_is)
    (case c20 => k_is)
    (case k20 => k_is)
    (case a21 => k_is)
    (case i21 => k_is)
    (case l21 => k_is)
    (case c21 => k_is)
    (case k21 => k_is)
    (case a22 => k_is)
    (case i22 => k_is)
    (case l22 => k_is)
    (case c22 => k_is)
    (case k22 => k_is)
    (case a23 => k_is)
    (case i23 => k_is)
    (case l23 => k_is)
    (case c23 => k_is)
    (case k23 => k_is)
    (case a24 => k_is)
    (case i24 => k_is)
    (case l24 => k_is)
    (case c24 => k_is)
    (case k24 => k_is)
    (case a25 => k_is)
    (case i25 => k_is)
    (case l25 => k_is)
    (case c25 => k_is)
    (case k25 => k_is)
    (case a26 => k_is)
    (case i26 => k_is)
    (case l26 => k_is)
    (case c26 => k_is)
    (case k26 => k_is)
    (case a27 => k_is)
    (case l27 => k_is)
    (case c27 => k_is)
    (case k27 => k_is)
    (case a28 => k_is)
    (case l28 => k_is)
    (case c28 => k_is)
    (case k28 => k_is)
    (case a29 => k_is)
    (case l29 => k_is)
    (case c29 => k_is)
    (case k29 => k_is)
    (case a30 => k_is)
    (case l30 => k_is)
    (case c30 => k_is)
    (case k30 => k_is)
    (case a31 => k_is)
    (case l31 => k_is)
    (case c31 => k_is)
    (case k31 => k_is)
    (case a32 => k_is)
    (case l32 => k_is)
    (case c32 => k_is)
    (case k32 => k_is)
    (case a33 => k_is)
    (case l33 => k_is)
    (case c33 => k_is)
    (case k33 => k_is)
    (case a34 => k_is)
    (case l34 => k_is)
    (case c34 => k_is)
    (case k34 => k_is)
    (case a35 => k_is)
    (case l35 => k_is)
    (case c35 => k_is)
    (case k35 => k_is)
    (case a36 => k_is)
    (case l36 => k_is)
    (case c36 => k_is)
    (case k36 => k_is)
    (case z_ValueError => k_is)
    (case z_all => k_is)
    (case z_bool => k_is)
    (case z_enumerate => k_is)
    (case z_int => k_is)
    (case z_isinstance => k_is)
    (case z_len => k_is)
    (case z_list => k_is)
    (case z_max => k_is)
    (case z_min => k_is)
    (case z_range => k_is)
    (case z_sum => k_is)
    (case z_tuple => k_is)
    (case g_MOST_NUMBER => k_is)
    (case g_STEPS => k_is)
    (case m_STEPS => k_is)
    (case g_STREETS => k_is)
    (case yg_LetterError => k_is)
    (case yg_NoBook => k_is)
    (case yg_NoCarrier => k_is)
    (case yg_NoOrder => k_is)
    (case yg_NoPlan => k_is)
    (case yg_NoStop => k_is)
    (case ye_LetterError => k_exc)
    (case yk_LetterError => k_is)
    (case yb_LetterError => k_is)
    (case ye_NoBook => k_exc)
    (case yk_NoBook => k_is)
    (case yb_NoBook => k_is)
    (case ye_NoCarrier => k_exc)
    (case yk_NoCarrier => k_is)
    (case yb_NoCarrier => k_is)
    (case ye_NoStop => k_exc)
    (case yk_NoStop => k_is)
    (case yb_NoStop => k_is)
    (case yx0_NoBook => k_is)
    (case yx1_NoBook => k_is)
    (case yx2_NoBook => k_is)
    (case yx3_NoBook => k_is)
    (case ys_NoBook_LetterError => k_is)
    (case yi_NoBook_NoBook => k_is)
    (case yi_NoBook_NoOrder => k_is)
    (case ywi_NoBook_NoOrder => decide)
    (case yi_NoBook_NoPlan => k_is)
    (case ywi_NoBook_NoPlan => decide)
    (case yi_NoBook_NoStop => k_is)
    (case ywi_NoBook_NoStop => decide)
    (case yv_NoBook => k_is)
    (case yt_LetterError => k_is)
    (case yd_LetterError => k_is)
    (case yt_NoBook => k_is)
    (case yd_NoBook => k_is)
    (case yt_NoCarrier => k_is)
    (case yd_NoCarrier => k_is)
    (case yt_NoOrder => k_is)
    (case yd_NoOrder => k_is)
    (case yt_NoPlan => k_is)
    (case yd_NoPlan => k_is)
    (case yt_NoStop => k_is)
    (case yd_NoStop => k_is)
    (case yn => k_is)
    (case yq => k_is)
